import PyProof.Rows.All
import OpenK.AllK
import HandS.ForMost
import HandS.ForExc
import HandS.Lambda
import HandS.RevRange
import KE.DataEq
import HandS.IsInst
import HandS.SortInts
import HandS.Conv
import KE.KExcSuper
import HandS.ExcIs
import HandS.ExcField
import HandS.EndTab
import HandS.SetFor
import HandS.More
import PySem.Challenge.RW_boxharbour_k20_whole_zones
set_option Elab.async false
set_option linter.all false
set_option maxRecDepth 100000
namespace DL
open PySem PySem.Spec PyProof.Rows L2

/-- who holds an object: this tree alone, nobody to write it any more, lent from the frame, a constant of the module (or the script) -/
inductive Fl where | own | shr | bor | kon
  deriving DecidableEq

/-- data, as a tree -/
inductive D where
  | non | bl (b : Bool) | int (i : Int) | str (x : Str) | hole
  | tup (xs : List D)
  | lst (f : Fl) (xs : List D)
  | dik (f : Fl) (ks : List Key) (vs : List D)
  | dit (f : Fl) (ks : List (List Key)) (vs : List D)
  | obj (f : Fl) (c : Str) (ns : List Str) (vs : List D)

/-- an exception: its class, its field, what the field holds -/
structure Xn where
  cls : Str
  fld : Str
  arg : D

inductive R (α : Type) where
  | ok (a : α) | exn (x : Xn) | stuck

namespace R
def bind {α β : Type} (r : R α) (f : α → R β) : R β := match r with
  | .ok a => f a
  | .exn x => .exn x
  | .stuck => .stuck
instance : Monad R where
  pure := .ok
  bind := bind
end R

/-- the static part: the written part, the classes' addresses, the code tables -/
structure Gm where
  K : PySem.W.Frag
  cm : Str → Addr
  T : List (Addr × Str)

abbrev AS := Addr → Prop

/-- read as a list though nobody writes it -/
def ShL (F : AS) (H : Hp) (a : Addr) (xs : List V) : Prop := H a = some (.lst xs) ∧ F a
/-- a list of the module, or the script -/
def KoL (Γ : Gm) (H : Hp) (a : Addr) (xs : List V) : Prop := (∃ o, H a = some (.frz o (.lst xs))) ∨ (∃ (o : Obj) (its : Array Value) (n : Nat), Γ.K.lookup a = some o ∧ o.cls = .type "list" ∧ o.dict = none ∧ o.data = .seq its n ∧ its.size ≤ sizeLine ∧ Vals xs its.toList)
/-- lent or shared -/
def Fl.sh : Fl → Bool
  | .shr => true
  | .bor => true
  | _ => false

def Fl.S (Fz Bz : AS) : Fl → AS
  | .own => fun _ => False
  | .shr => Fz
  | .bor => Bz
  | .kon => fun _ => False

mutual
inductive Rep (Γ : Gm) (Fz Bz : AS) (H : Hp) : V → D → List Addr → Prop
  | non : Rep Γ Fz Bz H .non .non []
  | bl (b : Bool) : Rep Γ Fz Bz H (.bl b) (.bl b) []
  | int (i : Int) : Rep Γ Fz Bz H (.int i) (.int i) []
  | str (x : Str) : Rep Γ Fz Bz H (.str x) (.str x) []
  | hole (v : V) : Rep Γ Fz Bz H v .hole []
  | tup {a : Addr} {vs : List V} {ds : List D} {L : List Addr} (h : SqT Γ.K H a vs) (r : Reps Γ Fz Bz H vs ds L) : Rep Γ Fz Bz H (.ref a) (.tup ds) L
  | lstO {a : Addr} {vs : List V} {ds : List D} {L : List Addr} (h : H a = some (.lst vs)) (r : Reps Γ Fz Bz H vs ds L) (n : a ∉ L) : Rep Γ Fz Bz H (.ref a) (.lst .own ds) (a :: L)
  | lstS {f : Fl} {a : Addr} {vs : List V} {ds : List D} (hf : f.sh = true) (h : ShL (f.S Fz Bz) H a vs) (r : Reps Γ Fz Bz H vs ds []) : Rep Γ Fz Bz H (.ref a) (.lst f ds) []
  | lstK {a : Addr} {vs : List V} {ds : List D} (h : KoL Γ H a vs) (r : Reps Γ Fz Bz H vs ds []) : Rep Γ Fz Bz H (.ref a) (.lst .kon ds) []
  | dikO {a : Addr} {kv : List (Key × V)} {ks : List Key} {ds : List D} {L : List Addr} (h : H a = some (.dK kv)) (hk : kv.map (·.1) = ks) (nd : ks.Nodup) (r : Reps Γ Fz Bz H (kv.map (·.2)) ds L) (n : a ∉ L) : Rep Γ Fz Bz H (.ref a) (.dik .own ks ds) (a :: L)
  | dikS {f : Fl} {a : Addr} {kv : List (Key × V)} {ks : List Key} {ds : List D} (hf : f.sh = true) (h : Rd H a (.dK kv)) (hF : f.S Fz Bz a) (hk : kv.map (·.1) = ks) (nd : ks.Nodup) (r : Reps Γ Fz Bz H (kv.map (·.2)) ds []) : Rep Γ Fz Bz H (.ref a) (.dik f ks ds) []
  | ditO {a : Addr} {kv : List (List Key × V)} {ks : List (List Key)} {ds : List D} {L : List Addr} (h : H a = some (.dT kv)) (hk : kv.map (·.1) = ks) (nd : ks.Nodup) (r : Reps Γ Fz Bz H (kv.map (·.2)) ds L) (n : a ∉ L) : Rep Γ Fz Bz H (.ref a) (.dit .own ks ds) (a :: L)
  | ditS {f : Fl} {a : Addr} {kv : List (List Key × V)} {ks : List (List Key)} {ds : List D} (hf : f.sh = true) (h : Rd H a (.dT kv)) (hF : f.S Fz Bz a) (hk : kv.map (·.1) = ks) (nd : ks.Nodup) (r : Reps Γ Fz Bz H (kv.map (·.2)) ds []) : Rep Γ Fz Bz H (.ref a) (.dit f ks ds) []
  | objO {a dx : Addr} {c : Str} {fs : List (Str × V)} {ns : List Str} {ds : List D} {L : List Addr} (h : H a = some (.ins (Γ.cm c) dx fs)) (hk : fs.map (·.1) = ns) (nd : ns.Nodup) (r : Reps Γ Fz Bz H (fs.map (·.2)) ds L) (n : a ∉ L) : Rep Γ Fz Bz H (.ref a) (.obj .own c ns ds) (a :: L)
  | objS {f : Fl} {a dx : Addr} {c : Str} {fs : List (Str × V)} {ns : List Str} {ds : List D} (hf : f.sh = true) (h : H a = some (.ins (Γ.cm c) dx fs)) (hF : f.S Fz Bz a) (hk : fs.map (·.1) = ns) (nd : ns.Nodup) (r : Reps Γ Fz Bz H (fs.map (·.2)) ds []) : Rep Γ Fz Bz H (.ref a) (.obj f c ns ds) []
inductive Reps (Γ : Gm) (Fz Bz : AS) (H : Hp) : List V → List D → List Addr → Prop
  | nil : Reps Γ Fz Bz H [] [] []
  | cons {v : V} {d : D} {vs : List V} {ds : List D} {L1 L2 L : List Addr} (r : Rep Γ Fz Bz H v d L1) (t : Reps Γ Fz Bz H vs ds L2) (s : ∀ a ∈ L1, a ∉ L2) (e : L = L1 ++ L2) : Reps Γ Fz Bz H (v :: vs) (d :: ds) L
end

/-- what is not of M stays -/
def Keep (M : AS) (H H' : Hp) : Prop := ∀ b o, H b = some o → ¬ M b → (∀ ps, o ≠ .tbl ps) → H' b = some o
theorem Keep.refl {M : AS} {H : Hp} : Keep M H H := fun _ _ h _ _ => h
theorem Keep.trans {M : AS} {H H1 H2 : Hp} (a : Keep M H H1) (b : Keep M H1 H2) : Keep M H H2 := fun c o h n t => b c o (a c o h n t) n t
theorem Keep.mono {M M' : AS} {H H1 : Hp} (a : Keep M H H1) (h : ∀ b, M b → M' b) : Keep M' H H1 := fun c o e n t => a c o e (fun z => n (h c z)) t
theorem Keep.rd {M : AS} {H H1 : Hp} (a : Keep M H H1) {b : Addr} {u : HO} (h : Rd H b u) (n : ¬ M b) (t : ∀ ps, u ≠ .tbl ps) : Rd H1 b u := by
  rcases h with h | ⟨o, h⟩
  · exact .inl (a _ _ h n t)
  · exact .inr ⟨o, a _ _ h n (fun ps z => by cases z)⟩
/-- written objects, tuples and the script are none of M: M's are tracked as what may be written -/
def MutS (M : AS) (H : Hp) : Prop := ∀ b, M b → (∀ xs, ¬ Rd H b (.tup xs)) ∧ ∀ o u, H b ≠ some (.frz o u)

theorem Keep.sqT {Γ : Gm} {M : AS} {H H1 : Hp} (a : Keep M H H1) (m : MutS M H) {b : Addr} {xs : List V} (h : SqT Γ.K H b xs) : SqT Γ.K H1 b xs := by
  rcases h with h | h
  · exact .inl (a.rd h (fun z => (m b z).1 xs h) (fun ps z => by cases z))
  · exact .inr h
theorem Keep.shL {M F F' : AS} {H H1 : Hp} (a : Keep M H H1) (hF : ∀ b, F b → ¬ M b ∧ F' b) {b : Addr} {xs : List V} (h : ShL F H b xs) : ShL F' H1 b xs := ⟨a _ _ h.1 (hF b h.2).1 (fun ps z => by cases z), (hF b h.2).2⟩
theorem Keep.koL {Γ : Gm} {M : AS} {H H1 : Hp} (a : Keep M H H1) (m : MutS M H) {b : Addr} {xs : List V} (h : KoL Γ H b xs) : KoL Γ H1 b xs := by
  rcases h with ⟨o, h⟩ | h
  · exact .inl ⟨o, a _ _ h (fun z => (m b z).2 _ _ h) (fun ps z => by cases z)⟩
  · exact .inr h
theorem Fl.S_mono {Fz Bz Fz' Bz' M : AS} {f : Fl} (h1 : ∀ b, Fz b → ¬ M b ∧ Fz' b) (h2 : ∀ b, Bz b → ¬ M b ∧ Bz' b) : ∀ b, f.S Fz Bz b → ¬ M b ∧ f.S Fz' Bz' b := by
  cases f with
  | own => intro b h; exact h.elim
  | shr => exact h1
  | bor => exact h2
  | kon => intro b h; exact h.elim

section
variable {Γ : Gm} {Fz Bz Fz' Bz' M : AS} {H H1 : Hp}
mutual
theorem Rep.keep (k : Keep M H H1) (m : MutS M H) (h1 : ∀ b, Fz b → ¬ M b ∧ Fz' b) (h2 : ∀ b, Bz b → ¬ M b ∧ Bz' b) : ∀ {v : V} {d : D} {L : List Addr}, Rep Γ Fz Bz H v d L → (∀ a ∈ L, ¬ M a) → Rep Γ Fz' Bz' H1 v d L
  | _, _, _, .non, _ => .non
  | _, _, _, .bl b, _ => .bl b
  | _, _, _, .int i, _ => .int i
  | _, _, _, .str x, _ => .str x
  | _, _, _, .hole v, _ => .hole v
  | _, _, _, .tup h r, z => .tup (k.sqT m h) (Reps.keep k m h1 h2 r z)
  | _, _, _, .lstO h r n, z => .lstO (k _ _ h (z _ List.mem_cons_self) (fun ps q => by cases q)) (Reps.keep k m h1 h2 r fun a ha => z a (List.mem_cons_of_mem _ ha)) n
  | _, _, _, .lstS hf h r, z => .lstS hf (k.shL (Fl.S_mono h1 h2) h) (Reps.keep k m h1 h2 r z)
  | _, _, _, .lstK h r, z => .lstK (k.koL m h) (Reps.keep k m h1 h2 r z)
  | _, _, _, .dikO h hk nd r n, z => .dikO (k _ _ h (z _ List.mem_cons_self) (fun ps q => by cases q)) hk nd (Reps.keep k m h1 h2 r fun a ha => z a (List.mem_cons_of_mem _ ha)) n
  | _, _, _, .dikS hf h hF hk nd r, z => .dikS hf (k.rd h (Fl.S_mono h1 h2 _ hF).1 (fun ps q => by cases q)) (Fl.S_mono h1 h2 _ hF).2 hk nd (Reps.keep k m h1 h2 r z)
  | _, _, _, .ditO h hk nd r n, z => .ditO (k _ _ h (z _ List.mem_cons_self) (fun ps q => by cases q)) hk nd (Reps.keep k m h1 h2 r fun a ha => z a (List.mem_cons_of_mem _ ha)) n
  | _, _, _, .ditS hf h hF hk nd r, z => .ditS hf (k.rd h (Fl.S_mono h1 h2 _ hF).1 (fun ps q => by cases q)) (Fl.S_mono h1 h2 _ hF).2 hk nd (Reps.keep k m h1 h2 r z)
  | _, _, _, .objO h hk nd r n, z => .objO (k _ _ h (z _ List.mem_cons_self) (fun ps q => by cases q)) hk nd (Reps.keep k m h1 h2 r fun a ha => z a (List.mem_cons_of_mem _ ha)) n
  | _, _, _, .objS hf h hF hk nd r, z => .objS hf (k _ _ h (Fl.S_mono h1 h2 _ hF).1 (fun ps q => by cases q)) (Fl.S_mono h1 h2 _ hF).2 hk nd (Reps.keep k m h1 h2 r z)
theorem Reps.keep (k : Keep M H H1) (m : MutS M H) (h1 : ∀ b, Fz b → ¬ M b ∧ Fz' b) (h2 : ∀ b, Bz b → ¬ M b ∧ Bz' b) : ∀ {vs : List V} {ds : List D} {L : List Addr}, Reps Γ Fz Bz H vs ds L → (∀ a ∈ L, ¬ M a) → Reps Γ Fz' Bz' H1 vs ds L
  | _, _, _, .nil, _ => .nil
  | _, _, _, .cons r t s e, z => .cons (Rep.keep k m h1 h2 r fun a ha => z a (e ▸ List.mem_append_left _ ha)) (Reps.keep k m h1 h2 t fun a ha => z a (e ▸ List.mem_append_right _ ha)) s e
end
end

mutual
def D.tag (g : Fl → Fl) : D → D
  | .non => .non
  | .bl b => .bl b
  | .int i => .int i
  | .str x => .str x
  | .hole => .hole
  | .tup xs => .tup (D.tagL g xs)
  | .lst f xs => .lst (g f) (D.tagL g xs)
  | .dik f ks vs => .dik (g f) ks (D.tagL g vs)
  | .dit f ks vs => .dit (g f) ks (D.tagL g vs)
  | .obj f c ns vs => .obj (g f) c ns (D.tagL g vs)
def D.tagL (g : Fl → Fl) : List D → List D
  | [] => []
  | x :: xs => D.tag g x :: D.tagL g xs
end
mutual
def D.all (p : Fl → Bool) : D → Bool
  | .non => true
  | .bl _ => true
  | .int _ => true
  | .str _ => true
  | .hole => true
  | .tup xs => D.allL p xs
  | .lst f xs => p f && D.allL p xs
  | .dik f _ vs => p f && D.allL p vs
  | .dit f _ vs => p f && D.allL p vs
  | .obj f _ _ vs => p f && D.allL p vs
def D.allL (p : Fl → Bool) : List D → Bool
  | [] => true
  | x :: xs => D.all p x && D.allL p xs
end
theorem D.tagL_map (g : Fl → Fl) : ∀ xs : List D, D.tagL g xs = xs.map (D.tag g)
  | [] => by simp [D.tagL]
  | x :: xs => by simp [D.tagL, D.tagL_map g xs]
theorem D.allL_all (p : Fl → Bool) : ∀ xs : List D, D.allL p xs = xs.all (D.all p)
  | [] => by simp [D.allL]
  | x :: xs => by simp [D.allL, D.allL_all p xs]

section
variable {Γ : Gm} {Fz Bz Fz' Bz' : AS} {H : Hp} {g : Fl → Fl}
theorem ShL.imp {F F' : AS} {a : Addr} {xs : List V} (h : ShL F H a xs) (k : F a → F' a) : ShL F' H a xs := ⟨h.1, k h.2⟩
mutual
/-- what was owned is shared or lent -/
theorem Rep.tagA (ho : (g .own).sh = true) (hk0 : g .kon = .kon) (hs : ∀ f, f.sh = true → (g f).sh = true ∧ ∀ a, f.S Fz Bz a → (g f).S Fz' Bz' a) : ∀ {v : V} {d : D} {L : List Addr}, Rep Γ Fz Bz H v d L → (∀ a ∈ L, (g .own).S Fz' Bz' a) → Rep Γ Fz' Bz' H v (d.tag g) []
  | _, _, _, .non, _ => .non
  | _, _, _, .bl b, _ => .bl b
  | _, _, _, .int i, _ => .int i
  | _, _, _, .str x, _ => .str x
  | _, _, _, .hole v, _ => .hole v
  | _, _, _, .tup h r, z => .tup h (Reps.tagA ho hk0 hs r z)
  | _, _, _, .lstO h r n, z => .lstS ho ⟨h, z _ List.mem_cons_self⟩ (Reps.tagA ho hk0 hs r fun a ha => z a (List.mem_cons_of_mem _ ha))
  | _, _, _, .lstS hf h r, z => .lstS (hs _ hf).1 (h.imp ((hs _ hf).2 _)) (Reps.tagA ho hk0 hs r z)
  | _, _, _, .lstK h r, z => by unfold D.tag; rw [hk0]; exact .lstK h (Reps.tagA ho hk0 hs r z)
  | _, _, _, .dikO h hk nd r n, z => .dikS ho (Rd.of h) (z _ List.mem_cons_self) hk nd (Reps.tagA ho hk0 hs r fun a ha => z a (List.mem_cons_of_mem _ ha))
  | _, _, _, .dikS hf h hF hk nd r, z => .dikS (hs _ hf).1 h ((hs _ hf).2 _ hF) hk nd (Reps.tagA ho hk0 hs r z)
  | _, _, _, .ditO h hk nd r n, z => .ditS ho (Rd.of h) (z _ List.mem_cons_self) hk nd (Reps.tagA ho hk0 hs r fun a ha => z a (List.mem_cons_of_mem _ ha))
  | _, _, _, .ditS hf h hF hk nd r, z => .ditS (hs _ hf).1 h ((hs _ hf).2 _ hF) hk nd (Reps.tagA ho hk0 hs r z)
  | _, _, _, .objO h hk nd r n, z => .objS ho h (z _ List.mem_cons_self) hk nd (Reps.tagA ho hk0 hs r fun a ha => z a (List.mem_cons_of_mem _ ha))
  | _, _, _, .objS hf h hF hk nd r, z => .objS (hs _ hf).1 h ((hs _ hf).2 _ hF) hk nd (Reps.tagA ho hk0 hs r z)
theorem Reps.tagA (ho : (g .own).sh = true) (hk0 : g .kon = .kon) (hs : ∀ f, f.sh = true → (g f).sh = true ∧ ∀ a, f.S Fz Bz a → (g f).S Fz' Bz' a) : ∀ {vs : List V} {ds : List D} {L : List Addr}, Reps Γ Fz Bz H vs ds L → (∀ a ∈ L, (g .own).S Fz' Bz' a) → Reps Γ Fz' Bz' H vs (D.tagL g ds) []
  | _, _, _, .nil, _ => .nil
  | _, _, _, .cons r t s e, z => .cons (L1 := []) (L2 := []) (Rep.tagA ho hk0 hs r fun a ha => z a (e ▸ List.mem_append_left _ ha)) (Reps.tagA ho hk0 hs t fun a ha => z a (e ▸ List.mem_append_right _ ha)) (fun _ h => nomatch h) rfl
end
mutual
/-- what was owned stays so -/
theorem Rep.tagB (ho : g .own = .own) (hk0 : g .kon = .kon) (hs : ∀ f, f.sh = true → (g f).sh = true ∧ ∀ a, f.S Fz Bz a → (g f).S Fz' Bz' a) : ∀ {v : V} {d : D} {L : List Addr}, Rep Γ Fz Bz H v d L → Rep Γ Fz' Bz' H v (d.tag g) L
  | _, _, _, .non => .non
  | _, _, _, .bl b => .bl b
  | _, _, _, .int i => .int i
  | _, _, _, .str x => .str x
  | _, _, _, .hole v => .hole v
  | _, _, _, .tup h r => .tup h (Reps.tagB ho hk0 hs r)
  | _, _, _, .lstO h r n => by unfold D.tag; rw [ho]; exact .lstO h (Reps.tagB ho hk0 hs r) n
  | _, _, _, .lstS hf h r => .lstS (hs _ hf).1 (h.imp ((hs _ hf).2 _)) (Reps.tagB ho hk0 hs r)
  | _, _, _, .lstK h r => by unfold D.tag; rw [hk0]; exact .lstK h (Reps.tagB ho hk0 hs r)
  | _, _, _, .dikO h hk nd r n => by unfold D.tag; rw [ho]; exact .dikO h hk nd (Reps.tagB ho hk0 hs r) n
  | _, _, _, .dikS hf h hF hk nd r => .dikS (hs _ hf).1 h ((hs _ hf).2 _ hF) hk nd (Reps.tagB ho hk0 hs r)
  | _, _, _, .ditO h hk nd r n => by unfold D.tag; rw [ho]; exact .ditO h hk nd (Reps.tagB ho hk0 hs r) n
  | _, _, _, .ditS hf h hF hk nd r => .ditS (hs _ hf).1 h ((hs _ hf).2 _ hF) hk nd (Reps.tagB ho hk0 hs r)
  | _, _, _, .objO h hk nd r n => by unfold D.tag; rw [ho]; exact .objO h hk nd (Reps.tagB ho hk0 hs r) n
  | _, _, _, .objS hf h hF hk nd r => .objS (hs _ hf).1 h ((hs _ hf).2 _ hF) hk nd (Reps.tagB ho hk0 hs r)
theorem Reps.tagB (ho : g .own = .own) (hk0 : g .kon = .kon) (hs : ∀ f, f.sh = true → (g f).sh = true ∧ ∀ a, f.S Fz Bz a → (g f).S Fz' Bz' a) : ∀ {vs : List V} {ds : List D} {L : List Addr}, Reps Γ Fz Bz H vs ds L → Reps Γ Fz' Bz' H vs (D.tagL g ds) L
  | _, _, _, .nil => .nil
  | _, _, _, .cons r t s e => .cons (Rep.tagB ho hk0 hs r) (Reps.tagB ho hk0 hs t) s e
end
variable {p : Fl → Bool}
mutual
/-- the sets change where no node asks -/
theorem Rep.chg (hs : ∀ f, f.sh = true → p f = true → ∀ a, f.S Fz Bz a → f.S Fz' Bz' a) : ∀ {v : V} {d : D} {L : List Addr}, Rep Γ Fz Bz H v d L → d.all p = true → Rep Γ Fz' Bz' H v d L
  | _, _, _, .non, _ => .non
  | _, _, _, .bl b, _ => .bl b
  | _, _, _, .int i, _ => .int i
  | _, _, _, .str x, _ => .str x
  | _, _, _, .hole v, _ => .hole v
  | _, _, _, .tup h r, z => .tup h (Reps.chg hs r (by unfold D.all at z; exact z))
  | _, _, _, .lstO h r n, z => .lstO h (Reps.chg hs r (by unfold D.all at z; exact (Bool.and_eq_true_iff.mp z).2)) n
  | _, _, _, .lstS hf h r, z => .lstS hf (h.imp (hs _ hf (by unfold D.all at z; exact (Bool.and_eq_true_iff.mp z).1) _)) (Reps.chg hs r (by unfold D.all at z; exact (Bool.and_eq_true_iff.mp z).2))
  | _, _, _, .lstK h r, z => .lstK h (Reps.chg hs r (by unfold D.all at z; exact (Bool.and_eq_true_iff.mp z).2))
  | _, _, _, .dikO h hk nd r n, z => .dikO h hk nd (Reps.chg hs r (by unfold D.all at z; exact (Bool.and_eq_true_iff.mp z).2)) n
  | _, _, _, .dikS hf h hF hk nd r, z => .dikS hf h (hs _ hf (by unfold D.all at z; exact (Bool.and_eq_true_iff.mp z).1) _ hF) hk nd (Reps.chg hs r (by unfold D.all at z; exact (Bool.and_eq_true_iff.mp z).2))
  | _, _, _, .ditO h hk nd r n, z => .ditO h hk nd (Reps.chg hs r (by unfold D.all at z; exact (Bool.and_eq_true_iff.mp z).2)) n
  | _, _, _, .ditS hf h hF hk nd r, z => .ditS hf h (hs _ hf (by unfold D.all at z; exact (Bool.and_eq_true_iff.mp z).1) _ hF) hk nd (Reps.chg hs r (by unfold D.all at z; exact (Bool.and_eq_true_iff.mp z).2))
  | _, _, _, .objO h hk nd r n, z => .objO h hk nd (Reps.chg hs r (by unfold D.all at z; exact (Bool.and_eq_true_iff.mp z).2)) n
  | _, _, _, .objS hf h hF hk nd r, z => .objS hf h (hs _ hf (by unfold D.all at z; exact (Bool.and_eq_true_iff.mp z).1) _ hF) hk nd (Reps.chg hs r (by unfold D.all at z; exact (Bool.and_eq_true_iff.mp z).2))
theorem Reps.chg (hs : ∀ f, f.sh = true → p f = true → ∀ a, f.S Fz Bz a → f.S Fz' Bz' a) : ∀ {vs : List V} {ds : List D} {L : List Addr}, Reps Γ Fz Bz H vs ds L → D.allL p ds = true → Reps Γ Fz' Bz' H vs ds L
  | _, _, _, .nil, _ => .nil
  | _, _, _, .cons r t s e, z => .cons (Rep.chg hs r (by unfold D.allL at z; exact (Bool.and_eq_true_iff.mp z).1)) (Reps.chg hs t (by unfold D.allL at z; exact (Bool.and_eq_true_iff.mp z).2)) s e
end
/-- what may be written -/
def Wr (H : Hp) (a : Addr) : Prop := ∃ o, H a = some o ∧ Mut (some o) ∧ ∀ φ, o ≠ .ext φ
theorem wr_at {H : Hp} {a b : Addr} {o : HO} (h : H b = some o) (m : Mut (some o)) (n : ∀ φ, o ≠ .ext φ) (z : a = b) : Wr H a := by
  subst z
  exact ⟨o, h, m, n⟩
mutual
theorem Rep.wr : ∀ {v : V} {d : D} {L : List Addr}, Rep Γ Fz Bz H v d L → ∀ a ∈ L, Wr H a
  | _, _, _, .non, _, h => nomatch h
  | _, _, _, .bl b, _, h => nomatch h
  | _, _, _, .int i, _, h => nomatch h
  | _, _, _, .str x, _, h => nomatch h
  | _, _, _, .hole v, _, h => nomatch h
  | _, _, _, .tup h r, a, q => Reps.wr r a q
  | _, _, _, .lstO h r n, a, q => (List.mem_cons.mp q).elim (fun z => wr_at h True.intro (fun _ z => by cases z) z) fun z => Reps.wr r a z
  | _, _, _, .lstS hf h r, _, q => nomatch q
  | _, _, _, .lstK h r, _, q => nomatch q
  | _, _, _, .dikO h hk nd r n, a, q => (List.mem_cons.mp q).elim (fun z => wr_at h True.intro (fun _ z => by cases z) z) fun z => Reps.wr r a z
  | _, _, _, .dikS hf h hF hk nd r, _, q => nomatch q
  | _, _, _, .ditO h hk nd r n, a, q => (List.mem_cons.mp q).elim (fun z => wr_at h True.intro (fun _ z => by cases z) z) fun z => Reps.wr r a z
  | _, _, _, .ditS hf h hF hk nd r, _, q => nomatch q
  | _, _, _, .objO h hk nd r n, a, q => (List.mem_cons.mp q).elim (fun z => wr_at h True.intro (fun _ z => by cases z) z) fun z => Reps.wr r a z
  | _, _, _, .objS hf h hF hk nd r, _, q => nomatch q
theorem Reps.wr : ∀ {vs : List V} {ds : List D} {L : List Addr}, Reps Γ Fz Bz H vs ds L → ∀ a ∈ L, Wr H a
  | _, _, _, .nil, _, h => nomatch h
  | _, _, _, .cons r t s e, a, h => (List.mem_append.mp (e ▸ h)).elim (fun z => Rep.wr r a z) fun z => Reps.wr t a z
end
theorem Reps.len : ∀ {vs : List V} {ds : List D} {L : List Addr}, Reps Γ Fz Bz H vs ds L → vs.length = ds.length
  | _, _, _, .nil => rfl
  | _, _, _, .cons r t s e => congrArg (· + 1) (Reps.len t)
end
end DL

namespace DL
open PySem PySem.Spec L2

abbrev Sg := L2.St
/-- a slot of the frame: nothing is known, or data; pinned: the name is not stored, its object is the caller's -/
inductive Sl where
  | emp | val (p : Bool) (d : D)

def none0 : AS := fun _ => False
def Trk (H : Hp) (a : Addr) : Prop := ∃ o, H a = some o ∧ ∀ ps, o ≠ .tbl ps
theorem Wr.trk {H : Hp} {a : Addr} (h : Wr H a) : Trk H a := by
  obtain ⟨o, h, m, _⟩ := h
  exact ⟨o, h, fun ps z => by subst z; exact m⟩
theorem not_trk {H : Hp} {a : Addr} (h : H a = none) : ¬ Trk H a := fun ⟨o, e, _⟩ => by rw [h] at e; cases e

inductive Envs (Γ : Gm) (Fz : AS) (H : Hp) : St → List Sl → List Addr → Prop
  | nil : Envs Γ Fz H [] [] []
  | emp {x : Option V} {σ : St} {ρ : List Sl} {L : List Addr} (t : Envs Γ Fz H σ ρ L) : Envs Γ Fz H (x :: σ) (.emp :: ρ) L
  | val {p : Bool} {v : V} {d : D} {σ : St} {ρ : List Sl} {L1 L2 L : List Addr} (r : Rep Γ Fz none0 H v d L1) (t : Envs Γ Fz H σ ρ L2) (s : ∀ a ∈ L1, a ∉ L2) (e : L = L1 ++ L2) : Envs Γ Fz H (some v :: σ) (.val p d :: ρ) L

section
variable {Γ : Gm} {Fz Fz' M : AS} {H H1 : Hp} {σ : St} {ρ : List Sl} {L : List Addr}
theorem Envs.len (h : Envs Γ Fz H σ ρ L) : σ.length = ρ.length := by
  induction h with
  | nil => rfl
  | emp t ih => simp [ih]
  | val r t s e ih => simp [ih]
theorem Envs.wr (h : Envs Γ Fz H σ ρ L) : ∀ a ∈ L, Wr H a := by
  induction h with
  | nil => intro a z; cases z
  | emp t ih => exact ih
  | val r t s e ih =>
    intro a z
    rw [e] at z
    exact (List.mem_append.mp z).elim (r.wr a) (ih a)
theorem Envs.keep (k : Keep M H H1) (m : MutS M H) (h1 : ∀ b, Fz b → ¬ M b ∧ Fz' b) (h : Envs Γ Fz H σ ρ L) (z : ∀ a ∈ L, ¬ M a) : Envs Γ Fz' H1 σ ρ L := by
  induction h with
  | nil => exact .nil
  | emp t ih => exact .emp (ih z)
  | val r t s e ih =>
    subst e
    exact .val (r.keep k m h1 (fun _ q => q.elim) fun a ha => z a (List.mem_append_left _ ha)) (ih fun a ha => z a (List.mem_append_right _ ha)) s rfl
/-- a slot's data taken out -/
theorem Envs.take {i : Nat} {p : Bool} {d : D} (h : Envs Γ Fz H σ ρ L) (e : ρ[i]? = some (.val p d)) :
    ∃ v Li Lr, σ[i]? = some (some v) ∧ Rep Γ Fz none0 H v d Li ∧ (∀ a, a ∈ L ↔ a ∈ Li ∨ a ∈ Lr) ∧ (∀ a ∈ Li, a ∉ Lr) ∧ Envs Γ Fz H σ (ρ.set i .emp) Lr := by
  induction h generalizing i with
  | nil => simp at e
  | emp t ih =>
    cases i with
    | zero => simp at e
    | succ i =>
      obtain ⟨v, Li, Lr, h1, h2, h3, h4, h5⟩ := ih (i := i) (by simpa using e)
      exact ⟨v, Li, Lr, by simpa using h1, h2, h3, h4, .emp h5⟩
  | @val p' v d' σ ρ L1 L2 L r t s e' ih =>
    cases i with
    | zero =>
      simp at e
      obtain ⟨rfl, rfl⟩ := e
      exact ⟨v, L1, L2, by simp, r, fun a => by rw [e']; exact List.mem_append, s, .emp t⟩
    | succ i =>
      obtain ⟨w, Li, Lr, h1, h2, h3, h4, h5⟩ := ih (i := i) (by simpa using e)
      refine ⟨w, Li, L1 ++ Lr, by simpa using h1, h2, fun a => ?_, fun a ha z => ?_, .val r h5 (fun a ha z => s a ha ((h3 a).mpr (.inr z))) rfl⟩
      · rw [e', List.mem_append, h3 a, List.mem_append]
        constructor
        · rintro (z | z | z)
          · exact .inr (.inl z)
          · exact .inl z
          · exact .inr (.inr z)
        · rintro (z | z | z)
          · exact .inr (.inl z)
          · exact .inl z
          · exact .inr (.inr z)
      · rcases List.mem_append.mp z with z | z
        · exact s a z ((h3 a).mpr (.inl ha))
        · exact h4 a ha z
/-- a slot is forgotten, and may be stored -/
theorem Envs.drop (i : Nat) (x : Option V) (h : Envs Γ Fz H σ ρ L) : ∃ Lr, (∀ a ∈ Lr, a ∈ L) ∧ Envs Γ Fz H (σ.set i x) (ρ.set i .emp) Lr := by
  induction h generalizing i with
  | nil => exact ⟨[], fun _ z => z, .nil⟩
  | emp t ih =>
    cases i with
    | zero => exact ⟨_, fun _ z => z, .emp t⟩
    | succ i =>
      obtain ⟨Lr, h1, h2⟩ := ih i
      exact ⟨Lr, h1, .emp h2⟩
  | @val p' v d' σ ρ L1 L2 L r t s e' ih =>
    cases i with
    | zero => exact ⟨L2, fun a z => e' ▸ List.mem_append_right _ z, .emp t⟩
    | succ i =>
      obtain ⟨Lr, h1, h2⟩ := ih i
      exact ⟨L1 ++ Lr, fun a z => by rw [e']; exact (List.mem_append.mp z).elim (fun q => List.mem_append_left _ q) fun q => List.mem_append_right _ (h1 a q), .val r h2 (fun a ha q => s a ha (h1 a q)) rfl⟩
/-- .. where it was empty all the rest stays -/
theorem Envs.dropE {i : Nat} (x : Option V) (h : Envs Γ Fz H σ ρ L) (e : ρ[i]? = some .emp) : Envs Γ Fz H (σ.set i x) ρ L := by
  induction h generalizing i with
  | nil => exact .nil
  | emp t ih =>
    cases i with
    | zero => exact .emp t
    | succ i => exact .emp (ih (by simpa using e))
  | @val p' v d' σ ρ L1 L2 L r t s e' ih =>
    cases i with
    | zero => simp at e
    | succ i => exact .val r (ih (by simpa using e)) s e'
/-- data laid into an empty slot -/
theorem Envs.put {i : Nat} {v : V} {d : D} (p : Bool) {Li : List Addr} (h : Envs Γ Fz H σ ρ L) (e : ρ[i]? = some .emp) (hv : σ[i]? = some (some v)) (r : Rep Γ Fz none0 H v d Li) (s : ∀ a ∈ Li, a ∉ L) :
    ∃ L', (∀ a, a ∈ L' ↔ a ∈ Li ∨ a ∈ L) ∧ Envs Γ Fz H σ (ρ.set i (.val p d)) L' := by
  induction h generalizing i with
  | nil => simp at e
  | @emp x σ ρ L t ih =>
    cases i with
    | zero =>
      simp at hv
      subst hv
      exact ⟨Li ++ L, fun a => List.mem_append, .val r t s rfl⟩
    | succ i =>
      obtain ⟨L', h1, h2⟩ := ih (by simpa using e) (by simpa using hv) s
      exact ⟨L', h1, .emp h2⟩
  | @val p' w d' σ ρ L1 L2 L r' t s' e' ih =>
    cases i with
    | zero => simp at e
    | succ i =>
      obtain ⟨L', h1, h2⟩ := ih (by simpa using e) (by simpa using hv) (fun a ha z => s a ha (e' ▸ List.mem_append_right _ z))
      refine ⟨L1 ++ L', fun a => ?_, .val r' h2 (fun a ha z => ?_) rfl⟩
      · rw [List.mem_append, h1 a, e', List.mem_append]
        constructor
        · rintro (z | z | z)
          · exact .inr (.inl z)
          · exact .inl z
          · exact .inr (.inr z)
        · rintro (z | z | z)
          · exact .inr (.inl z)
          · exact .inl z
          · exact .inr (.inr z)
      · rcases (h1 a).mp z with z | z
        · exact s a z (e' ▸ List.mem_append_left _ ha)
        · exact s' a ha z
end

/-- the state between two steps -/
structure Stt (Γ : Gm) (Fz : AS) (H : Hp) (σ : St) (ρ : List Sl) (L : List Addr) : Prop where
  env : Envs Γ Fz H σ ρ L
  dis : ∀ a ∈ L, ¬ Fz a
  trk : ∀ a, Fz a → Trk H a
  tabs : LamX.Tabs Γ.T H

/-- what a step leaves; M: what it may have changed -/
structure Out (Γ : Gm) (Fz : AS) (H : Hp) (M : AS) (Fz' : AS) (H' : Hp) : Prop where
  keep : Keep M H H'
  there : ∀ a, Trk H a → Trk H' a
  up : ∀ a, Fz a → Fz' a
  new : ∀ a, Fz' a → Fz a ∨ M a ∨ ¬ Trk H a
  trk : ∀ a, Fz' a → Trk H' a
  tabs : LamX.Tabs Γ.T H'

section
variable {Γ : Gm} {Fz Fz1 Fz2 M M1 M2 : AS} {H H1 H2 : Hp} {σ : St} {ρ : List Sl} {L : List Addr}
theorem Out.refl (t : ∀ a, Fz a → Trk H a) (b : LamX.Tabs Γ.T H) : Out Γ Fz H M Fz H := ⟨.refl, fun _ h => h, fun _ h => h, fun _ h => .inl h, t, b⟩
theorem Out.trans (a : Out Γ Fz H M Fz1 H1) (b : Out Γ Fz1 H1 M1 Fz2 H2) (m : ∀ c, M1 c → M c ∨ ¬ Trk H c) : Out Γ Fz H M Fz2 H2 where
  keep := fun c o e n t => b.keep c o (a.keep c o e n t) (fun z => (m c z).elim n fun q => q ⟨o, e, t⟩) t
  there := fun c h => b.there c (a.there c h)
  up := fun c h => b.up c (a.up c h)
  new := fun c h => by
    rcases b.new c h with h | h | h
    · exact a.new c h
    · rcases m c h with h | h
      · exact .inr (.inl h)
      · exact .inr (.inr h)
    · exact .inr (.inr fun z => h (a.there c z))
  trk := b.trk
  tabs := b.tabs
theorem Out.trans0 (a : Out Γ Fz H M Fz1 H1) (b : Out Γ Fz1 H1 none0 Fz2 H2) : Out Γ Fz H M Fz2 H2 := a.trans b fun _ h => h.elim
theorem Out.mono (a : Out Γ Fz H M Fz1 H1) (h : ∀ c, M c → M1 c) : Out Γ Fz H M1 Fz1 H1 :=
  ⟨a.keep.mono h, a.there, a.up, fun c z => (a.new c z).elim .inl fun q => .inr (q.elim (fun q => .inl (h c q)) .inr), a.trk, a.tabs⟩
theorem mutS0 {H : Hp} : MutS none0 H := fun _ h => h.elim
theorem mutS_of {H : Hp} {L : List Addr} (h : ∀ a ∈ L, Wr H a) : MutS (· ∈ L) H := fun b hb => by
  obtain ⟨o, e, m, _⟩ := h b hb
  refine ⟨fun xs r => ?_, fun ob u z => ?_⟩
  · rcases r with r | ⟨ob, r⟩
    · rw [e] at r; cases r; exact m
    · rw [e] at r; cases r; exact m
  · rw [e] at z; cases z; exact m
/-- a represented value behind a step that does not touch it -/
theorem Rep.out {Bz Bz' : AS} {v : V} {d : D} {Ld : List Addr} (r : Rep Γ Fz Bz H v d Ld) (o : Out Γ Fz H M Fz1 H1) (m : MutS M H) (hF : ∀ a, Fz a → ¬ M a) (hB : ∀ b, Bz b → ¬ M b ∧ Bz' b) (hL : ∀ a ∈ Ld, ¬ M a) : Rep Γ Fz1 Bz' H1 v d Ld :=
  r.keep o.keep m (fun b h => ⟨hF b h, o.up b h⟩) hB hL
theorem Rep.out0 {Bz Bz' : AS} {v : V} {d : D} {Ld : List Addr} (r : Rep Γ Fz Bz H v d Ld) (o : Out Γ Fz H none0 Fz1 H1) (hB : ∀ b, Bz b → Bz' b) : Rep Γ Fz1 Bz' H1 v d Ld :=
  r.out o mutS0 (fun _ _ h => h) (fun b h => ⟨id, hB b h⟩) fun _ _ h => h
theorem Reps.out0 {Bz Bz' : AS} {v : List V} {d : List D} {Ld : List Addr} (r : Reps Γ Fz Bz H v d Ld) (o : Out Γ Fz H none0 Fz1 H1) (hB : ∀ b, Bz b → Bz' b) : Reps Γ Fz1 Bz' H1 v d Ld :=
  r.keep o.keep mutS0 (fun b h => ⟨id, o.up b h⟩) (fun b h => ⟨id, hB b h⟩) fun _ _ h => h
/-- the state behind a step that changes nothing -/
theorem Stt.grow (s : Stt Γ Fz H σ ρ L) (o : Out Γ Fz H none0 Fz1 H1) : Stt Γ Fz1 H1 σ ρ L where
  env := s.env.keep o.keep mutS0 (fun b h => ⟨id, o.up b h⟩) fun _ _ h => h
  dis := fun a ha h => by
    rcases o.new a h with h | h | h
    · exact s.dis a ha h
    · exact h
    · exact h (s.env.wr a ha).trk
  trk := o.trk
  tabs := o.tabs
end

/-! ### exceptions -/
structure XRep (Γ : Gm) (H : Hp) (x : Xn) (cls : Value) (dx : Option Addr) : Prop where
  cls : cls = .ref (Γ.cm x.cls)
  dict : ∃ (a : Addr) (v : V), dx = some a ∧ H a = some (.xd [(x.fld, v)]) ∧ Rep Γ none0 none0 H v x.arg []

/-! ### readings -/
/-- pinned slots stay so -/
def PinE (ρ ρ' : List Sl) : Prop := ∀ (i : Nat) (d : D), ρ[i]? = some (Sl.val true d) → ∃ d', ρ'[i]? = some (Sl.val true d')
/-- an expression that changes nothing that stands; what it hands out may be lent from the frame -/
def tP (Γ : Gm) (W : WX) (p : List Sl → R D) : TE := fun σ H Q => ∃ Fz ρ L, Stt Γ Fz H σ ρ L ∧ match p ρ with
  | .ok d => ∀ v H' Fz' Ld, Out Γ Fz H none0 Fz' H' → Rep Γ Fz' (fun a => a ∈ L ∨ Fz' a) H' v d Ld → (∀ a ∈ Ld, ¬ Trk H a ∧ ¬ Fz' a) → Q v H'
  | .exn x => ∀ cls dx H' Fz', Out Γ Fz H none0 Fz' H' → XRep Γ H' x cls dx → W cls dx σ H'
  | .stuck => False
/-- an argument list of such -/
def tPA (Γ : Gm) (W : WX) (p : List Sl → R (List D)) : TA := fun σ H Q => ∃ Fz ρ L, Stt Γ Fz H σ ρ L ∧ match p ρ with
  | .ok ds => ∀ vs H' Fz' Ld, Out Γ Fz H none0 Fz' H' → Reps Γ Fz' (fun a => a ∈ L ∨ Fz' a) H' vs ds Ld → (∀ a ∈ Ld, ¬ Trk H a ∧ ¬ Fz' a) → Q vs H'
  | .exn x => ∀ cls dx H' Fz', Out Γ Fz H none0 Fz' H' → XRep Γ H' x cls dx → W cls dx σ H'
  | .stuck => False
/-- a test -/
def tPT (Γ : Gm) (W : WX) (p : List Sl → R Bool) : TT := fun σ H Q => ∃ Fz ρ L, Stt Γ Fz H σ ρ L ∧ match p ρ with
  | .ok b => ∀ H' Fz', Out Γ Fz H none0 Fz' H' → Q b H'
  | .exn x => ∀ cls dx H' Fz', Out Γ Fz H none0 Fz' H' → XRep Γ H' x cls dx → W cls dx σ H'
  | .stuck => False
/-- an expression that may change what the frame owns; what it hands out is its own or shared -/
def tE (Γ : Gm) (W : WX) (m : List Sl → R (D × List Sl)) : TE := fun σ H Q => ∃ Fz ρ L, Stt Γ Fz H σ ρ L ∧ match m ρ with
  | .ok (d, ρ') => ∀ v H' Fz' L' Ld, Out Γ Fz H (· ∈ L) Fz' H' → Stt Γ Fz' H' σ ρ' L' → Rep Γ Fz' none0 H' v d Ld → (∀ a ∈ Ld, a ∉ L' ∧ ¬ Fz' a) → (∀ a, a ∈ L' ∨ a ∈ Ld → a ∈ L ∨ ¬ Trk H a) → PinE ρ ρ' → Q v H'
  | .exn x => ∀ cls dx H' Fz' , Out Γ Fz H (· ∈ L) Fz' H' → XRep Γ H' x cls dx → W cls dx σ H'
  | .stuck => False
def tEA (Γ : Gm) (W : WX) (m : List Sl → R (List D × List Sl)) : TA := fun σ H Q => ∃ Fz ρ L, Stt Γ Fz H σ ρ L ∧ match m ρ with
  | .ok (ds, ρ') => ∀ vs H' Fz' L' Ld, Out Γ Fz H (· ∈ L) Fz' H' → Stt Γ Fz' H' σ ρ' L' → Reps Γ Fz' none0 H' vs ds Ld → (∀ a ∈ Ld, a ∉ L' ∧ ¬ Fz' a) → (∀ a, a ∈ L' ∨ a ∈ Ld → a ∈ L ∨ ¬ Trk H a) → PinE ρ ρ' → Q vs H'
  | .exn x => ∀ cls dx H' Fz' , Out Γ Fz H (· ∈ L) Fz' H' → XRep Γ H' x cls dx → W cls dx σ H'
  | .stuck => False
def tET (Γ : Gm) (W : WX) (m : List Sl → R (Bool × List Sl)) : TT := fun σ H Q => ∃ Fz ρ L, Stt Γ Fz H σ ρ L ∧ match m ρ with
  | .ok (b, ρ') => ∀ H' Fz' L', Out Γ Fz H (· ∈ L) Fz' H' → Stt Γ Fz' H' σ ρ' L' → (∀ a, a ∈ L' → a ∈ L ∨ ¬ Trk H a) → PinE ρ ρ' → Q b H'
  | .exn x => ∀ cls dx H' Fz' , Out Γ Fz H (· ∈ L) Fz' H' → XRep Γ H' x cls dx → W cls dx σ H'
  | .stuck => False
/-- where a statement ends -/
inductive Fw where
  | nx (ρ : List Sl) | bk (ρ : List Sl) | ct (ρ : List Sl) | rt (d : D) (ρ : List Sl)
/-- pinned names keep their objects -/
def Pins (ρ : List Sl) (σ : L2.St) (ρ' : List Sl) (σ' : L2.St) : Prop := ∀ (i : Nat) (d : D), ρ[i]? = some (Sl.val true d) → σ'[i]? = σ[i]? ∧ ∃ d', ρ'[i]? = some (Sl.val true d')
def SOut (Γ : Gm) (Fz : AS) (H : Hp) (L : List Addr) (ρ : List Sl) (σ : St) (ρ' : List Sl) (Q : St → Hp → Prop) : Prop :=
  ∀ σ' H' Fz' L', Out Γ Fz H (· ∈ L) Fz' H' → Stt Γ Fz' H' σ' ρ' L' → (∀ a ∈ L', a ∈ L ∨ ¬ Trk H a) → Pins ρ σ ρ' σ' → Q σ' H'
/-- what a statement's end asks -/
def SPost (Γ : Gm) (W : WX) (Fz : AS) (H : Hp) (L : List Addr) (ρ : List Sl) (σ : L2.St) (D : Ends) : R Fw → Prop
  | .ok (.nx ρ') => SOut Γ Fz H L ρ σ ρ' D.nx
  | .ok (.bk ρ') => SOut Γ Fz H L ρ σ ρ' D.bk
  | .ok (.ct ρ') => SOut Γ Fz H L ρ σ ρ' D.ct
  | .ok (.rt d ρ') => ∀ v σ' H' Fz' L' Ld, Out Γ Fz H (· ∈ L) Fz' H' → Stt Γ Fz' H' σ' ρ' L' → Rep Γ Fz' none0 H' v d Ld → (∀ a ∈ Ld, a ∉ L' ∧ ¬ Fz' a) → (∀ a, a ∈ L' ∨ a ∈ Ld → a ∈ L ∨ ¬ Trk H a) → Pins ρ σ ρ' σ' → D.rt v H'
  | .exn x => ∀ cls dx σ' H' Fz', Out Γ Fz H (· ∈ L) Fz' H' → XRep Γ H' x cls dx → W cls dx σ' H'
  | .stuck => False
def tS (Γ : Gm) (W : WX) (m : List Sl → R Fw) : TS := fun D σ H => ∃ Fz ρ L, Stt Γ Fz H σ ρ L ∧ SPost Γ W Fz H L ρ σ D (m ρ)
end DL

namespace DL
open PySem PySem.Spec L2

/-! ### readings weakened -/
section
variable {X : Cx}
theorem PEi {e : Expr} {t t' : TE} (h : PE X e t) (i : ∀ σ H Q, t' σ H Q → t σ H Q) : PE X e t' := ⟨fun pins s σ H Q I q => h.run pins s σ H Q I (i σ H Q q)⟩
theorem PTi {e : Expr} {t t' : TT} (h : PT X e t) (i : ∀ σ H Q, t' σ H Q → t σ H Q) : PT X e t' := ⟨fun pins s σ H Q I q => h.run pins s σ H Q I (i σ H Q q)⟩
theorem PWi {e : Expr} {t t' : TT} (h : PW X e t) (i : ∀ σ H Q, t' σ H Q → t σ H Q) : PW X e t' := ⟨fun w pins s σ H Q I q => h.run w pins s σ H Q I (i σ H Q q)⟩
theorem PAi {e : List Expr} {t t' : TA} (h : PA X e t) (i : ∀ σ H Q, t' σ H Q → t σ H Q) : PA X e t' := ⟨fun pos pins s σ H Q I q => h.run pos pins s σ H Q I (i σ H Q q)⟩
theorem PSi {e : Stmt} {t t' : TS} (h : PS X e t) (i : ∀ D σ H, t' D σ H → t D σ H) : PS X e t' := ⟨fun pins s σ H D I q => h.run pins s σ H D I (i D σ H q)⟩
theorem PSsi {e : List Stmt} {t t' : TS} (h : PSs X e t) (i : ∀ D σ H, t' D σ H → t D σ H) : PSs X e t' := ⟨fun pins s σ H D I q => h.run pins s σ H D I (i D σ H q)⟩
end

/-- the place of lent nodes -/
abbrev Bo (L : List Addr) (Fz : AS) : AS := fun a => a ∈ L ∨ Fz a

section
variable {Γ : Gm} {Fz Fz1 Fz2 M M1 M2 : AS} {H H1 H2 : Hp} {σ : L2.St} {ρ : List Sl} {L : List Addr}
theorem same_tabs {T : List (Addr × Str)} {H H' : Hp} (t : LamX.Tabs T H) (s : Same H H') : LamX.Tabs T H' := t.ext s
theorem Out.same (t : ∀ a, Fz a → Trk H a) (b : LamX.Tabs Γ.T H) (s : Same H H1) : Out Γ Fz H M Fz H1 :=
  ⟨fun c o e _ _ => s c o e, fun a ⟨o, e, n⟩ => ⟨o, s a o e, n⟩, fun _ h => h, fun _ h => .inl h, fun a h => let ⟨o, e, n⟩ := t a h; ⟨o, s a o e, n⟩, same_tabs b s⟩
theorem same_upd {H : Hp} {p : Addr} {o : HO} (h : H p = none) : Same H (upd H p o) := fun b u e => by rw [upd_ne (ne_of_none e h)]; exact e
end

/-! ### operations on values -/
/-- what an operation on two values gives, as data -/
def rD2 (Γ : Gm) (f : D → D → Option D) : R2 := fun x y H Q => ∃ Fz Bz d1 d2 L1 L2, Rep Γ Fz Bz H x d1 L1 ∧ Rep Γ Fz Bz H y d2 L2 ∧ (∀ a ∈ L1, a ∉ L2) ∧ match f d1 d2 with
  | some d => ∀ z H' Ld, Same H H' → Rep Γ Fz Bz H' z d Ld → (∀ a ∈ Ld, a ∈ L1 ∨ a ∈ L2 ∨ H a = none) → Q z H'
  | none => False
def rD1 (Γ : Gm) (f : D → Option D) : V → Hp → VK → Prop := fun x H Q => ∃ Fz Bz d1 L1, Rep Γ Fz Bz H x d1 L1 ∧ match f d1 with
  | some d => ∀ z H' Ld, Same H H' → Rep Γ Fz Bz H' z d Ld → (∀ a ∈ Ld, a ∈ L1 ∨ H a = none) → Q z H'
  | none => False
def rDN (Γ : Gm) (f : List D → Option D) : List V → Hp → VK → Prop := fun xs H Q => ∃ Fz Bz ds L1, Reps Γ Fz Bz H xs ds L1 ∧ match f ds with
  | some d => ∀ z H' Ld, Same H H' → Rep Γ Fz Bz H' z d Ld → (∀ a ∈ Ld, a ∈ L1 ∨ H a = none) → Q z H'
  | none => False
def rDM (Γ : Gm) (f : D → List D → Option D) : V → List V → Hp → VK → Prop := fun x xs H Q => ∃ Fz Bz d0 ds L0 L1, Rep Γ Fz Bz H x d0 L0 ∧ Reps Γ Fz Bz H xs ds L1 ∧ (∀ a ∈ L0, a ∉ L1) ∧ match f d0 ds with
  | some d => ∀ z H' Ld, Same H H' → Rep Γ Fz Bz H' z d Ld → (∀ a ∈ Ld, a ∈ L0 ∨ a ∈ L1 ∨ H a = none) → Q z H'
  | none => False

/-! ### the programs on data -/
def R.of {α : Type} : Option α → R α
  | some a => .ok a
  | none => .stuck
abbrev Pm := List Sl → R D
abbrev PA' := List Sl → R (List D)
abbrev Pb := List Sl → R Bool
def toBor : Fl → Fl
  | .own => .bor
  | f => f
def toShr : Fl → Fl
  | .kon => .kon
  | _ => .shr
def pVar (i : Nat) : Pm := fun ρ => match ρ[i]? with
  | some (.val _ d) => .ok (d.tag toBor)
  | _ => .stuck
def pC (d : D) : Pm := fun _ => .ok d
def pOp2 (f : D → D → Option D) (p1 p2 : Pm) : Pm := fun ρ => (p1 ρ).bind fun d1 => (p2 ρ).bind fun d2 => .of (f d1 d2)
def pOp1 (f : D → Option D) (p1 : Pm) : Pm := fun ρ => (p1 ρ).bind fun d1 => .of (f d1)
def pNil : PA' := fun _ => .ok []
def pCons (p : Pm) (q : PA') : PA' := fun ρ => (p ρ).bind fun d => (q ρ).bind fun ds => .ok (d :: ds)
def pOpN (f : List D → Option D) (p : PA') : Pm := fun ρ => (p ρ).bind fun ds => .of (f ds)
def pOpM (f : D → List D → Option D) (p1 : Pm) (p : PA') : Pm := fun ρ => (p1 ρ).bind fun d => (p ρ).bind fun ds => .of (f d ds)
/-- a value's bool -/
def dB : D → R Bool
  | .bl b => .ok b
  | _ => .stuck
def pTst (p : Pm) : Pb := fun ρ => (p ρ).bind dB
def pAnd (p q : Pb) : Pb := fun ρ => (p ρ).bind fun b => if b then q ρ else .ok false
def pOr (p q : Pb) : Pb := fun ρ => (p ρ).bind fun b => if b then .ok true else q ρ
def pNot (p : Pb) : Pb := fun ρ => (p ρ).bind fun b => .ok (!b)
def pIf (c : Pb) (p q : Pm) : Pm := fun ρ => (c ρ).bind fun b => if b then p ρ else q ρ
def pBl (p : Pb) : Pm := fun ρ => (p ρ).bind fun b => .ok (.bl b)

section
variable {Γ : Gm} {W : WX} {X : Cx} {a b c : Expr} {p1 p2 : Pm} {q : PA'} {es : List Expr} {pos : Pos}

/-- the heart: what a program on data asks of the one after it -/
theorem tP_then {Fz : AS} {H : Hp} {σ : L2.St} {ρ : List Sl} {L : List Addr} {p : Pm} {g : D → Prop} {Q : VK} (S : Stt Γ Fz H σ ρ L)
    (hx : ∀ x, p ρ = .exn x → ∀ cls dx H' Fz', Out Γ Fz H none0 Fz' H' → XRep Γ H' x cls dx → W cls dx σ H') (hs : p ρ ≠ .stuck)
    (h : ∀ d, p ρ = .ok d → ∀ v H' Fz' Ld, Out Γ Fz H none0 Fz' H' → Rep Γ Fz' (Bo L Fz') H' v d Ld → (∀ a ∈ Ld, ¬ Trk H a ∧ ¬ Fz' a) → Q v H') : tP Γ W p σ H Q := by
  refine ⟨Fz, ρ, L, S, ?_⟩
  cases e : p ρ with
  | ok d => exact h d e
  | exn x => exact hx x e
  | stuck => exact hs e
theorem bo_up {L : List Addr} {Fz Fz' : AS} (h : ∀ a, Fz a → Fz' a) : ∀ b, Bo L Fz b → Bo L Fz' b := fun b z => z.elim .inl fun q => .inr (h b q)

/-- the last step: an operation on values that stand -/
theorem fin_op {Fz Fz1 : AS} {H H1 : Hp} {σ : L2.St} {ρ : List Sl} {L L1 : List Addr} {d : D} {Q : VK} (S : Stt Γ Fz H σ ρ L) (o : Out Γ Fz H none0 Fz1 H1) (n : ∀ a ∈ L1, ¬ Trk H a ∧ ¬ Fz1 a)
    (h : ∀ v H' Fz' Ld, Out Γ Fz H none0 Fz' H' → Rep Γ Fz' (Bo L Fz') H' v d Ld → (∀ a ∈ Ld, ¬ Trk H a ∧ ¬ Fz' a) → Q v H') {z : V} {H' : Hp} {Ld : List Addr} (s : Same H1 H') (r : Rep Γ Fz1 (Bo L Fz1) H' z d Ld) (f : ∀ a ∈ Ld, a ∈ L1 ∨ H1 a = none) : Q z H' := by
  refine h z H' Fz1 Ld (o.trans0 (Out.same o.trk o.tabs s)) r fun a ha => ?_
  rcases f a ha with q | q
  · exact n a q
  · exact ⟨fun t => not_trk q (o.there a t), fun t => not_trk q (o.trk a t)⟩

theorem rp_var {i : Nat} {x : Str} (hN : X.N[i]? = some x := by rfl) (hv : Vis X.env.scope x := by first | exact Or.inl rfl | exact Or.inr (Or.inl rfl) | exact Or.inr (Or.inr rfl)) (hd : (x == ("__debug__" : Str)) = false := by decide)
    (hcd : (x == ("__classdict__" : Str)) = false := by decide) : PE X (.Name x pos) (tP Γ W (pVar i)) := by
  refine PEi (pe_var hN hv hd hcd) fun σ H Q h => ?_
  obtain ⟨Fz, ρ, L, S, h⟩ := h
  unfold pVar at h
  cases e : ρ[i]? with
  | none => rw [e] at h; exact h.elim
  | some sl =>
    rw [e] at h
    cases sl with
    | emp => exact h.elim
    | val p d =>
      obtain ⟨v, Li, Lr, h1, h2, h3, h4, h5⟩ := S.env.take e
      refine ⟨v, h1, h v H Fz [] (.refl S.trk S.tabs) ?_ fun a z => nomatch z⟩
      refine h2.tagA rfl rfl (fun f hf => ?_) fun a ha => .inl ((h3 a).mpr (.inl ha))
      cases f <;> first | (cases hf; done) | skip
      · exact ⟨rfl, fun a z => z⟩
      · exact ⟨rfl, fun a z => z.elim⟩
theorem rp_c {e : Expr} {v : V} {d : D} (h : PE X e (tC v)) (r : ∀ Fz Bz H, Rep Γ Fz Bz H v d []) : PE X e (tP Γ W (pC d)) := by
  refine PEi h fun σ H Q h => ?_
  obtain ⟨Fz, ρ, L, S, h⟩ := h
  exact h v H Fz [] (.refl S.trk S.tabs) (r _ _ _) fun a z => nomatch z
theorem rp_int {i j pos} : PE X (.Constant (.int i) j pos) (tP Γ W (pC (.int i))) := rp_c pe_int fun _ _ _ => .int i
theorem rp_bl {b j pos} : PE X (.Constant (.bool b) j pos) (tP Γ W (pC (.bl b))) := rp_c pe_bl fun _ _ _ => .bl b
theorem rp_non {j pos} : PE X (.Constant .none j pos) (tP Γ W (pC .non)) := rp_c pe_non fun _ _ _ => .non
theorem rp_str {x j pos} : PE X (.Constant (.str x) j pos) (tP Γ W (pC (.str x))) := rp_c pe_str fun _ _ _ => .str x

theorem imp_op2 {f : D → D → Option D} {σ : L2.St} {H : Hp} {Q : VK} (h : tP Γ W (pOp2 f p1 p2) σ H Q) : tOp (rD2 Γ f) (tP Γ W p1) (tP Γ W p2) σ H Q := by
  obtain ⟨Fz, ρ, L, S, h⟩ := h
  unfold pOp2 at h
  refine ⟨Fz, ρ, L, S, ?_⟩
  cases e1 : p1 ρ with
  | stuck => rw [e1] at h; exact h
  | exn x => rw [e1] at h; exact h
  | ok d1 =>
    rw [e1] at h
    intro v1 H1 Fz1 L1 o1 r1 n1
    refine ⟨Fz1, ρ, L, S.grow o1, ?_⟩
    cases e2 : p2 ρ with
    | stuck => rw [R.bind, e2] at h; exact h
    | exn x =>
      rw [R.bind, e2] at h
      intro cls dx H' Fz' o2 xr
      exact h cls dx H' Fz' (o1.trans0 o2) xr
    | ok d2 =>
      rw [R.bind, e2] at h
      intro v2 H2 Fz2 L2 o2 r2 n2
      have o := o1.trans0 o2
      refine ⟨Fz2, Bo L Fz2, d1, d2, L1, L2, r1.out0 o2 (bo_up o2.up), r2, fun a ha z => (n2 a z).1 (r1.wr a ha).trk, ?_⟩
      rw [R.bind] at h
      cases e3 : f d1 d2 with
      | none => rw [e3] at h; exact h
      | some d =>
        rw [e3] at h
        intro z H' Ld s r n
        refine fin_op (L1 := L1 ++ L2) S o (fun a ha => ?_) h s r fun a ha => ?_
        · rcases List.mem_append.mp ha with q | q
          · exact ⟨(n1 a q).1, fun t => by
              rcases o2.new a t with t | t | t
              · exact (n1 a q).2 t
              · exact t
              · exact t (r1.wr a q).trk⟩
          · exact ⟨fun t => (n2 a q).1 (o1.there a t), (n2 a q).2⟩
        · rcases n a ha with q | q | q
          · exact .inl (List.mem_append_left _ q)
          · exact .inl (List.mem_append_right _ q)
          · exact .inr q
theorem imp_op1 {f : D → Option D} {σ : L2.St} {H : Hp} {Q : VK} (h : tP Γ W (pOp1 f p1) σ H Q) : tUn (rD1 Γ f) (tP Γ W p1) σ H Q := by
  obtain ⟨Fz, ρ, L, S, h⟩ := h
  unfold pOp1 at h
  refine ⟨Fz, ρ, L, S, ?_⟩
  cases e1 : p1 ρ with
  | stuck => rw [e1] at h; exact h
  | exn x => rw [e1] at h; exact h
  | ok d1 =>
    rw [e1] at h
    intro v1 H1 Fz1 L1 o1 r1 n1
    refine ⟨Fz1, Bo L Fz1, d1, L1, r1, ?_⟩
    rw [R.bind] at h
    cases e3 : f d1 with
    | none => rw [e3] at h; exact h
    | some d =>
      rw [e3] at h
      intro z H' Ld s r n
      exact fin_op S o1 n1 h s r n
theorem imp_opN {f : List D → Option D} {σ : L2.St} {H : Hp} {Q : VK} (h : tP Γ W (pOpN f q) σ H Q) : tCB (rDN Γ f) (tPA Γ W q) σ H Q := by
  obtain ⟨Fz, ρ, L, S, h⟩ := h
  unfold pOpN at h
  refine ⟨Fz, ρ, L, S, ?_⟩
  cases e1 : q ρ with
  | stuck => rw [e1] at h; exact h
  | exn x => rw [e1] at h; exact h
  | ok d1 =>
    rw [e1] at h
    intro v1 H1 Fz1 L1 o1 r1 n1
    refine ⟨Fz1, Bo L Fz1, d1, L1, r1, ?_⟩
    rw [R.bind] at h
    cases e3 : f d1 with
    | none => rw [e3] at h; exact h
    | some d =>
      rw [e3] at h
      intro z H' Ld s r n
      exact fin_op S o1 n1 h s r n
theorem rp_nil : PA X [] (tPA Γ W pNil) := by
  refine PAi pa_nil fun σ H Q h => ?_
  obtain ⟨Fz, ρ, L, S, h⟩ := h
  exact h [] H Fz [] (.refl S.trk S.tabs) .nil fun a z => nomatch z
theorem rp_cons {e : Expr} (ha : PE X e (tP Γ W p1)) (hr : PA X es (tPA Γ W q)) (hs : starEach (e :: es) X.env = (false, eval e X.env) :: starEach es X.env := by rfl) : PA X (e :: es) (tPA Γ W (pCons p1 q)) := by
  refine PAi (pa_cons ha hr hs) fun σ H Q h => ?_
  obtain ⟨Fz, ρ, L, S, h⟩ := h
  unfold pCons at h
  refine ⟨Fz, ρ, L, S, ?_⟩
  cases e1 : p1 ρ with
  | stuck => rw [e1] at h; exact h
  | exn x => rw [e1] at h; exact h
  | ok d1 =>
    rw [e1] at h
    intro v1 H1 Fz1 L1 o1 r1 n1
    refine ⟨Fz1, ρ, L, S.grow o1, ?_⟩
    cases e2 : q ρ with
    | stuck => rw [R.bind, e2] at h; exact h
    | exn x =>
      rw [R.bind, e2] at h
      intro cls dx H' Fz' o2 xr
      exact h cls dx H' Fz' (o1.trans0 o2) xr
    | ok d2 =>
      rw [R.bind, e2] at h
      intro v2 H2 Fz2 L2 o2 r2 n2
      refine h (v1 :: v2) H2 Fz2 (L1 ++ L2) (o1.trans0 o2) (.cons (r1.out0 o2 (bo_up o2.up)) r2 (fun a ha z => (n2 a z).1 (r1.wr a ha).trk) rfl) fun a ha => ?_
      rcases List.mem_append.mp ha with q | q
      · exact ⟨(n1 a q).1, fun t => by
          rcases o2.new a t with t | t | t
          · exact (n1 a q).2 t
          · exact t
          · exact t (r1.wr a q).trk⟩
      · exact ⟨fun t => (n2 a q).1 (o1.there a t), (n2 a q).2⟩
theorem rp_op2 {op : Operator} {f : D → D → Option D} (ho : OpR X (binaryOp op) (rD2 Γ f)) (h1 : PE X a (tP Γ W p1)) (h2 : PE X b (tP Γ W p2)) : PE X (.BinOp a op b pos) (tP Γ W (pOp2 f p1 p2)) :=
  PEi (pe_op ho h1 h2) fun _ _ _ h => imp_op2 h
theorem rp_cmp {op : CmpOp} {f : D → D → Option D} (ho : OpR X (compareOp op) (rD2 Γ f)) (h1 : PE X a (tP Γ W p1)) (h2 : PE X b (tP Γ W p2)) (hn : behindInMarks op b = false := by first | exact nomark _ | rfl) : PE X (.Compare a [op] [b] pos) (tP Γ W (pOp2 f p1 p2)) :=
  PEi (pe_cmpR ho h1 h2 hn) fun _ _ _ h => imp_op2 h
theorem rp_un {op : UnaryOp} {f : D → Option D} (ho : UnR X (unaryOp op) (rD1 Γ f)) (h1 : PE X a (tP Γ W p1)) : PE X (.UnaryOp op a pos) (tP Γ W (pOp1 f p1)) :=
  PEi (pe_un ho h1) fun _ _ _ h => imp_op1 h
theorem rp_ix {f : D → D → Option D} (ho : IxR X (rD2 Γ f)) (h1 : PE X a (tP Γ W p1)) (h2 : PE X b (tP Γ W p2)) (hs : PlainIx b := by exact fun _ _ => rfl) : PE X (.Subscript a b pos) (tP Γ W (pOp2 f p1 p2)) :=
  PEi (pe_ix ho h1 h2 hs) fun _ _ _ h => imp_op2 h
theorem rp_callB {x : Str} {id : String} {f : List D → Option D} {e : Expr} {p : Pos} (hc : CallR X (.builtin id) (rDN Γ f)) (hm : X.mg x = none) (ha : PA X (e :: es) (tPA Γ W q)) (hg : Gl X x := by rfl) (hv : bootBuiltins x = some (.builtin id) := by decide +kernel) (hn : x ≠ "__name__" := by decide) (hdb : (x == ("__debug__" : Str)) = false := by decide)
    (he : starEach (e :: es) X.env = (false, eval e X.env) :: starEach es X.env := by rfl) (hpl : (backTo pos (starEach es X.env)).any (·.1) = false := by rfl) : PE X (.Call (.Name x p) (e :: es) [] pos) (tP Γ W (pOpN f q)) :=
  PEi (pe_callB hc hg hm hv ha hn hdb he hpl) fun _ _ _ h => imp_opN h
end
end DL

namespace DL
open PySem PySem.Spec L2

/-! ### tests -/
section
variable {Γ : Gm} {W : WX} {X : Cx} {a b c : Expr} {p p1 p2 : Pm} {c1 c2 : Pb} {pos : Pos}
theorem Rep.isBl {Fz Bz : AS} {H : Hp} {v : V} {b : Bool} {L : List Addr} (r : Rep Γ Fz Bz H v (.bl b) L) : v = .bl b := by cases r; rfl
theorem imp_tst {σ : L2.St} {H : Hp} {Q : Bool → Hp → Prop} (h : tPT Γ W (pTst p) σ H Q) : tTest (tP Γ W p) σ H Q := by
  obtain ⟨Fz, ρ, L, S, h⟩ := h
  unfold pTst at h
  refine ⟨Fz, ρ, L, S, ?_⟩
  cases e1 : p ρ with
  | stuck => rw [e1] at h; exact h
  | exn x => rw [e1] at h; exact h
  | ok d1 =>
    rw [e1] at h
    intro v1 H1 Fz1 L1 o1 r1 n1
    cases d1 <;> first | exact h.elim | skip
    case bl b => exact ⟨b, r1.isBl, h H1 Fz1 o1⟩
theorem rt_val {e : Expr} (h : PE X e (tP Γ W p)) (he : ∀ whole, isTrue e X.env whole = (do let v ← whole; standAt e.pos; holding [v] (truthy v)) := by intro _; rfl) : PT X e (tPT Γ W (pTst p)) :=
  PTi (pt_val h he) fun _ _ _ h => imp_tst h
theorem rt_cmp {op : CmpOp} {f : D → D → Option D} (ho : OpR X (compareOp op) (rD2 Γ f)) (h1 : PE X a (tP Γ W p1)) (h2 : PE X b (tP Γ W p2)) (hn : behindInMarks op b = false := by first | exact nomark _ | rfl) : PT X (.Compare a [op] [b] pos) (tPT Γ W (pTst (pOp2 f p1 p2))) :=
  PTi (pt_cmpR ho h1 h2 hn) fun _ _ _ h => (by
    obtain ⟨Fz, ρ, L, S, h⟩ := h
    have z := imp_tst (p := pOp2 f p1 p2) ⟨Fz, ρ, L, S, h⟩
    exact imp_op2 z)
theorem imp_and {σ : L2.St} {H : Hp} {Q : Bool → Hp → Prop} (h : tPT Γ W (pAnd c1 c2) σ H Q) : tAnd (tPT Γ W c1) (tPT Γ W c2) σ H Q := by
  obtain ⟨Fz, ρ, L, S, h⟩ := h
  unfold pAnd at h
  refine ⟨Fz, ρ, L, S, ?_⟩
  cases e1 : c1 ρ with
  | stuck => rw [e1] at h; exact h
  | exn x => rw [e1] at h; exact h
  | ok b =>
    rw [e1] at h
    intro H1 Fz1 o1
    cases b with
    | false => exact h H1 Fz1 o1
    | true =>
      refine ⟨Fz1, ρ, L, S.grow o1, ?_⟩
      rw [R.bind, if_pos rfl] at h
      cases e2 : c2 ρ with
      | stuck => rw [e2] at h; exact h
      | exn x =>
        rw [e2] at h
        intro cls dx H' Fz' o2 xr
        exact h cls dx H' Fz' (o1.trans0 o2) xr
      | ok b => rw [e2] at h; intro H2 Fz2 o2; exact h H2 Fz2 (o1.trans0 o2)
theorem imp_or {σ : L2.St} {H : Hp} {Q : Bool → Hp → Prop} (h : tPT Γ W (pOr c1 c2) σ H Q) : tOr (tPT Γ W c1) (tPT Γ W c2) σ H Q := by
  obtain ⟨Fz, ρ, L, S, h⟩ := h
  unfold pOr at h
  refine ⟨Fz, ρ, L, S, ?_⟩
  cases e1 : c1 ρ with
  | stuck => rw [e1] at h; exact h
  | exn x => rw [e1] at h; exact h
  | ok b =>
    rw [e1] at h
    intro H1 Fz1 o1
    cases b with
    | true => exact h H1 Fz1 o1
    | false =>
      refine ⟨Fz1, ρ, L, S.grow o1, ?_⟩
      rw [R.bind, if_neg (by decide)] at h
      cases e2 : c2 ρ with
      | stuck => rw [e2] at h; exact h
      | exn x =>
        rw [e2] at h
        intro cls dx H' Fz' o2 xr
        exact h cls dx H' Fz' (o1.trans0 o2) xr
      | ok b => rw [e2] at h; intro H2 Fz2 o2; exact h H2 Fz2 (o1.trans0 o2)
theorem rt_not (h : PT X a (tPT Γ W c1)) : PT X (.UnaryOp .Not a pos) (tPT Γ W (pNot c1)) := by
  refine PTi (pt_not h) fun σ H Q h => ?_
  obtain ⟨Fz, ρ, L, S, h⟩ := h
  unfold pNot at h
  refine ⟨Fz, ρ, L, S, ?_⟩
  cases e1 : c1 ρ with
  | stuck => rw [e1] at h; exact h
  | exn x => rw [e1] at h; exact h
  | ok b => rw [e1] at h; intro H1 Fz1 o1; exact h H1 Fz1 o1
theorem rw_and1 (h : PT X a (tPT Γ W c1)) : PW X (.BoolOp .And [a] pos) (tPT Γ W c1) := pw_and1 h
theorem rw_or1 (h : PT X a (tPT Γ W c1)) : PW X (.BoolOp .Or [a] pos) (tPT Γ W c1) := pw_or1 h
theorem rw_and {rest : List Expr} (h1 : PT X a (tPT Γ W c1)) (h2 : PW X (.BoolOp .And (b :: rest) pos) (tPT Γ W c2)) : PW X (.BoolOp .And (a :: b :: rest) pos) (tPT Γ W (pAnd c1 c2)) :=
  PWi (pw_and h1 h2) fun _ _ _ h => imp_and h
theorem rw_or {rest : List Expr} (h1 : PT X a (tPT Γ W c1)) (h2 : PW X (.BoolOp .Or (b :: rest) pos) (tPT Γ W c2)) : PW X (.BoolOp .Or (a :: b :: rest) pos) (tPT Γ W (pOr c1 c2)) :=
  PWi (pw_or h1 h2) fun _ _ _ h => imp_or h
/-- and, or, not as values: all but the last True or False -/
def pAndV (p q : Pm) : Pm := fun ρ => (p ρ).bind fun d => (dB d).bind fun b => if b then q ρ else .ok (.bl false)
def pOrV (p q : Pm) : Pm := fun ρ => (p ρ).bind fun d => (dB d).bind fun b => if b then .ok (.bl true) else q ρ
def dNot : D → Option D
  | .bl b => some (.bl (!b))
  | _ => none
theorem rp_one {op} (h : PE X a (tP Γ W p)) : PE X (.BoolOp op [a] pos) (tP Γ W p) := pe_one h
theorem rp_and {rest : List Expr} (h1 : PE X a (tP Γ W p1)) (h2 : PE X (.BoolOp .And (b :: rest) pos) (tP Γ W p2)) : PE X (.BoolOp .And (a :: b :: rest) pos) (tP Γ W (pAndV p1 p2)) := by
  refine PEi (pe_and h1 h2) fun σ H Q h => ?_
  obtain ⟨Fz, ρ, L, S, h⟩ := h
  unfold pAndV at h
  refine ⟨Fz, ρ, L, S, ?_⟩
  cases e1 : p1 ρ with
  | stuck => rw [e1] at h; exact h
  | exn x => rw [e1] at h; exact h
  | ok d1 =>
    rw [e1] at h
    intro v1 H1 Fz1 L1 o1 r1 n1
    cases d1 <;> first | exact h.elim | skip
    case bl bb =>
      refine ⟨bb, r1.isBl, ?_⟩
      cases bb with
      | false => exact h (.bl false) H1 Fz1 [] o1 (.bl false) fun a z => nomatch z
      | true =>
        refine ⟨Fz1, ρ, L, S.grow o1, ?_⟩
        rw [R.bind, dB, R.bind, if_pos rfl] at h
        cases e2 : p2 ρ with
        | stuck => rw [e2] at h; exact h
        | exn x => rw [e2] at h; intro cls dx H' Fz' o2 xr; exact h cls dx H' Fz' (o1.trans0 o2) xr
        | ok d2 => rw [e2] at h; intro v2 H2 Fz2 L2 o2 r2 n2; exact h v2 H2 Fz2 L2 (o1.trans0 o2) r2 fun a ha => ⟨fun t => (n2 a ha).1 (o1.there a t), (n2 a ha).2⟩
theorem rp_or {rest : List Expr} (h1 : PE X a (tP Γ W p1)) (h2 : PE X (.BoolOp .Or (b :: rest) pos) (tP Γ W p2)) : PE X (.BoolOp .Or (a :: b :: rest) pos) (tP Γ W (pOrV p1 p2)) := by
  refine PEi (pe_or h1 h2) fun σ H Q h => ?_
  obtain ⟨Fz, ρ, L, S, h⟩ := h
  unfold pOrV at h
  refine ⟨Fz, ρ, L, S, ?_⟩
  cases e1 : p1 ρ with
  | stuck => rw [e1] at h; exact h
  | exn x => rw [e1] at h; exact h
  | ok d1 =>
    rw [e1] at h
    intro v1 H1 Fz1 L1 o1 r1 n1
    cases d1 <;> first | exact h.elim | skip
    case bl bb =>
      refine ⟨bb, r1.isBl, ?_⟩
      cases bb with
      | true => exact h (.bl true) H1 Fz1 [] o1 (.bl true) fun a z => nomatch z
      | false =>
        refine ⟨Fz1, ρ, L, S.grow o1, ?_⟩
        rw [R.bind, dB, R.bind, if_neg (by decide)] at h
        cases e2 : p2 ρ with
        | stuck => rw [e2] at h; exact h
        | exn x => rw [e2] at h; intro cls dx H' Fz' o2 xr; exact h cls dx H' Fz' (o1.trans0 o2) xr
        | ok d2 => rw [e2] at h; intro v2 H2 Fz2 L2 o2 r2 n2; exact h v2 H2 Fz2 L2 (o1.trans0 o2) r2 fun a ha => ⟨fun t => (n2 a ha).1 (o1.there a t), (n2 a ha).2⟩
theorem rp_not (h : PE X a (tP Γ W p)) : PE X (.UnaryOp .Not a pos) (tP Γ W (pOp1 dNot p)) := by
  refine PEi (pe_not h) fun σ H Q h => ?_
  obtain ⟨Fz, ρ, L, S, h⟩ := h
  unfold pOp1 at h
  refine ⟨Fz, ρ, L, S, ?_⟩
  cases e1 : p ρ with
  | stuck => rw [e1] at h; exact h
  | exn x => rw [e1] at h; exact h
  | ok d1 =>
    rw [e1] at h
    intro v1 H1 Fz1 L1 o1 r1 n1
    cases d1 <;> first | exact h.elim | skip
    case bl bb => exact ⟨bb, r1.isBl, h _ H1 Fz1 [] o1 (.bl (!bb)) fun a z => nomatch z⟩
theorem rp_if (hc : PT X c (tPT Γ W c1)) (h1 : PE X a (tP Γ W p1)) (h2 : PE X b (tP Γ W p2)) : PE X (.IfExp c a b pos) (tP Γ W (pIf c1 p1 p2)) := by
  refine PEi (pe_ifExp hc h1 h2) fun σ H Q h => ?_
  obtain ⟨Fz, ρ, L, S, h⟩ := h
  unfold pIf at h
  refine ⟨Fz, ρ, L, S, ?_⟩
  cases e1 : c1 ρ with
  | stuck => rw [e1] at h; exact h
  | exn x => rw [e1] at h; exact h
  | ok bb =>
    rw [e1] at h
    intro H1 Fz1 o1
    have go : ∀ p : Pm, (match p ρ with
      | .ok d => ∀ v H' Fz' Ld, Out Γ Fz H none0 Fz' H' → Rep Γ Fz' (Bo L Fz') H' v d Ld → (∀ a ∈ Ld, ¬ Trk H a ∧ ¬ Fz' a) → Q v H'
      | .exn x => ∀ cls dx H' Fz', Out Γ Fz H none0 Fz' H' → XRep Γ H' x cls dx → W cls dx σ H'
      | .stuck => False) → tP Γ W p σ H1 Q := fun p h => by
      refine ⟨Fz1, ρ, L, S.grow o1, ?_⟩
      cases e2 : p ρ with
      | stuck => rw [e2] at h; exact h
      | exn x => rw [e2] at h; intro cls dx H' Fz' o2 xr; exact h cls dx H' Fz' (o1.trans0 o2) xr
      | ok d2 => rw [e2] at h; intro v2 H2 Fz2 L2 o2 r2 n2; exact h v2 H2 Fz2 L2 (o1.trans0 o2) r2 fun a ha => ⟨fun t => (n2 a ha).1 (o1.there a t), (n2 a ha).2⟩
    cases bb with
    | true => exact go p1 h
    | false => exact go p2 h
end

/-! ### steps that change what the frame owns -/
abbrev Em := List Sl → R (D × List Sl)
abbrev EA' := List Sl → R (List D × List Sl)
abbrev Eb := List Sl → R (Bool × List Sl)
abbrev Sm := List Sl → R Fw
def noBor (d : D) : Bool := d.all (· != .bor)
def eP (p : Pm) : Em := fun ρ => (p ρ).bind fun d => if noBor d then .ok (d, ρ) else .stuck
def eMove (i : Nat) : Em := fun ρ => match ρ[i]? with
  | some (.val false d) => .ok (d, ρ.set i .emp)
  | _ => .stuck
def eOp2 (f : D → D → Option D) (m1 m2 : Em) : Em := fun ρ => (m1 ρ).bind fun x => (m2 x.2).bind fun y => (R.of (f x.1 y.1)).bind fun d => .ok (d, y.2)
def eOp1 (f : D → Option D) (m1 : Em) : Em := fun ρ => (m1 ρ).bind fun x => (R.of (f x.1)).bind fun d => .ok (d, x.2)
def eNil : EA' := fun ρ => .ok ([], ρ)
def eCons (m : Em) (q : EA') : EA' := fun ρ => (m ρ).bind fun x => (q x.2).bind fun y => .ok (x.1 :: y.1, y.2)
def eOpN (f : List D → Option D) (q : EA') : Em := fun ρ => (q ρ).bind fun x => (R.of (f x.1)).bind fun d => .ok (d, x.2)
def eTst (m : Em) : Eb := fun ρ => (m ρ).bind fun x => (dB x.1).bind fun b => .ok (b, x.2)
def eB (c : Pb) : Eb := fun ρ => (c ρ).bind fun b => .ok (b, ρ)
def eAnd (m n : Eb) : Eb := fun ρ => (m ρ).bind fun x => if x.1 then n x.2 else .ok (false, x.2)
def eOr (m n : Eb) : Eb := fun ρ => (m ρ).bind fun x => if x.1 then .ok (true, x.2) else n x.2
def eNot (m : Eb) : Eb := fun ρ => (m ρ).bind fun x => .ok (!x.1, x.2)
def sSeq (m n : Sm) : Sm := fun ρ => (m ρ).bind fun f => match f with
  | .nx ρ' => n ρ'
  | f => .ok f
def sNil : Sm := fun ρ => .ok (.nx ρ)
def sSet (i : Nat) (m : Em) : Sm := fun ρ => (m ρ).bind fun x => match x.2[i]? with
  | some .emp => .ok (.nx (x.2.set i (.val false x.1)))
  | some (.val false _) => .ok (.nx (x.2.set i (.val false x.1)))
  | _ => .stuck
def sRet (m : Em) : Sm := fun ρ => (m ρ).bind fun x => .ok (.rt x.1 x.2)
def sRetN : Sm := fun ρ => .ok (.rt .non ρ)
def sIf (c : Eb) (m n : Sm) : Sm := fun ρ => (c ρ).bind fun x => if x.1 then m x.2 else n x.2
def sExpr (m : Em) : Sm := fun ρ => (m ρ).bind fun x => .ok (.nx x.2)
def sBrk : Sm := fun ρ => .ok (.bk ρ)
def sCnt : Sm := fun ρ => .ok (.ct ρ)

section
variable {Γ : Gm} {W : WX} {X : Cx} {a b c : Expr} {p p1 p2 : Pm} {m m1 m2 : Em} {q : EA'} {c1 c2 : Eb} {pos : Pos} {es : List Expr}
theorem Pins.refl (ρ : List Sl) (σ : L2.St) : Pins ρ σ ρ σ := fun i d e => ⟨rfl, d, e⟩
theorem Pins.trans {ρ ρ1 ρ2 : List Sl} {σ σ1 σ2 : L2.St} (h : Pins ρ σ ρ1 σ1) (g : Pins ρ1 σ1 ρ2 σ2) : Pins ρ σ ρ2 σ2 := fun i d e => by
  obtain ⟨h1, d1, h2⟩ := h i d e
  obtain ⟨g1, d2, g2⟩ := g i d1 h2
  exact ⟨g1.trans h1, d2, g2⟩
theorem PinE.refl (ρ : List Sl) : PinE ρ ρ := fun _ d e => ⟨d, e⟩
theorem PinE.trans {ρ ρ1 ρ2 : List Sl} (h : PinE ρ ρ1) (g : PinE ρ1 ρ2) : PinE ρ ρ2 := fun i d e => let ⟨d1, e1⟩ := h i d e; g i d1 e1
theorem PinE.pins {ρ ρ1 : List Sl} (h : PinE ρ ρ1) (σ : L2.St) : Pins ρ σ ρ1 σ := fun i d e => ⟨rfl, h i d e⟩
theorem PinE.set {ρ : List Sl} {i : Nat} {x : Sl} (h : ∀ d, ρ[i]? ≠ some (.val true d)) : PinE ρ (ρ.set i x) := fun j d e => by
  by_cases z : i = j
  · subst z; exact absurd e (h d)
  · exact ⟨d, by rw [List.getElem?_set_ne z]; exact e⟩
theorem Stt.wr {Fz : AS} {H : Hp} {σ : L2.St} {ρ : List Sl} {L : List Addr} (S : Stt Γ Fz H σ ρ L) : MutS (· ∈ L) H := mutS_of S.env.wr
theorem Out.transL {Fz Fz1 Fz2 : AS} {H H1 H2 : Hp} {L L1 : List Addr} (a : Out Γ Fz H (· ∈ L) Fz1 H1) (b : Out Γ Fz1 H1 (· ∈ L1) Fz2 H2) (m : ∀ c, c ∈ L1 → c ∈ L ∨ ¬ Trk H c) : Out Γ Fz H (· ∈ L) Fz2 H2 := a.trans b m

theorem re_p {e : Expr} (h : PE X e (tP Γ W p)) : PE X e (tE Γ W (eP p)) := by
  refine PEi h fun σ H Q h => ?_
  obtain ⟨Fz, ρ, L, S, h⟩ := h
  unfold eP at h
  refine ⟨Fz, ρ, L, S, ?_⟩
  cases e1 : p ρ with
  | stuck => rw [e1] at h; exact h
  | exn x => rw [e1] at h; intro cls dx H' Fz' o xr; exact h cls dx H' Fz' (o.mono fun _ z => z.elim) xr
  | ok d =>
    rw [e1, R.bind] at h
    intro v H' Fz' Ld o r n
    by_cases c : noBor d = true
    · rw [if_pos c] at h
      have S' := S.grow o
      refine h v H' Fz' L Ld (o.mono fun _ z => z.elim) S' (r.chg (p := (· != .bor)) (fun f hf hp a hz => ?_) c) (fun a ha => ⟨fun z => (n a ha).1 (S.env.wr a z).trk, (n a ha).2⟩) (fun a ha => ?_) (.refl ρ)
      · cases f with
 | own => cases hf
 | kon => cases hf
        | shr => exact hz
        | bor => exact absurd hp (by decide)
      · rcases ha with z | z
        · exact .inl z
        · exact .inr (n a z).1
    · rw [if_neg c] at h; exact h.elim
theorem re_b {e : Expr} {c : Pb} (h : PT X e (tPT Γ W c)) : PT X e (tET Γ W (eB c)) := by
  refine PTi h fun σ H Q h => ?_
  obtain ⟨Fz, ρ, L, S, h⟩ := h
  unfold eB at h
  refine ⟨Fz, ρ, L, S, ?_⟩
  cases e1 : c ρ with
  | stuck => rw [e1] at h; exact h
  | exn x => rw [e1] at h; intro cls dx H' Fz' o xr; exact h cls dx H' Fz' (o.mono fun _ z => z.elim) xr
  | ok d =>
    rw [e1, R.bind] at h
    intro H' Fz' o
    exact h H' Fz' L (o.mono fun _ z => z.elim) (S.grow o) (fun a z => .inl z) (.refl ρ)
theorem re_move {i : Nat} {x : Str} (hN : X.N[i]? = some x := by rfl) (hv : Vis X.env.scope x := by first | exact Or.inl rfl | exact Or.inr (Or.inl rfl) | exact Or.inr (Or.inr rfl)) (hd : (x == ("__debug__" : Str)) = false := by decide)
    (hcd : (x == ("__classdict__" : Str)) = false := by decide) : PE X (.Name x pos) (tE Γ W (eMove i)) := by
  refine PEi (pe_var hN hv hd hcd) fun σ H Q h => ?_
  obtain ⟨Fz, ρ, L, S, h⟩ := h
  unfold eMove at h
  cases e : ρ[i]? with
  | none => rw [e] at h; exact h.elim
  | some sl =>
    rw [e] at h
    cases sl with
    | emp => exact h.elim
    | val p d =>
      cases p with
      | true => exact h.elim
      | false =>
        obtain ⟨v, Li, Lr, h1, h2, h3, h4, h5⟩ := S.env.take e
        refine ⟨v, h1, h v H Fz Lr Li (.refl S.trk S.tabs) ⟨h5, fun a ha => S.dis a ((h3 a).mpr (.inr ha)), S.trk, S.tabs⟩ h2 (fun a ha => ⟨h4 a ha, S.dis a ((h3 a).mpr (.inl ha))⟩) (fun a ha => .inl ((h3 a).mpr ha.symm)) (.set fun d' z => by rw [e] at z; cases z)⟩

/-- a temporary value stands behind a step on the frame -/
theorem tmp_keep {Fz Fz1 : AS} {H H1 : Hp} {σ : L2.St} {ρ : List Sl} {L Ld : List Addr} {v : V} {d : D} (S : Stt Γ Fz H σ ρ L) (o : Out Γ Fz H (· ∈ L) Fz1 H1) (r : Rep Γ Fz none0 H v d Ld) (n : ∀ a ∈ Ld, a ∉ L ∧ ¬ Fz a) :
    Rep Γ Fz1 none0 H1 v d Ld ∧ ∀ a ∈ Ld, ¬ Fz1 a :=
  ⟨r.out o S.wr (fun a h z => S.dis a z h) (fun b z => z.elim) fun a ha => (n a ha).1, fun a ha z => by
    rcases o.new a z with z | z | z
    · exact (n a ha).2 z
    · exact (n a ha).1 z
    · exact z (r.wr a ha).trk⟩
theorem Stt.same {Fz : AS} {H H1 : Hp} {σ : L2.St} {ρ : List Sl} {L : List Addr} (S : Stt Γ Fz H σ ρ L) (s : Same H H1) : Stt Γ Fz H1 σ ρ L := S.grow (Out.same S.trk S.tabs s)

theorem imp_eop2 {f : D → D → Option D} {σ : L2.St} {H : Hp} {Q : VK} (h : tE Γ W (eOp2 f m1 m2) σ H Q) : tOp (rD2 Γ f) (tE Γ W m1) (tE Γ W m2) σ H Q := by
  obtain ⟨Fz, ρ, L, S, h⟩ := h
  unfold eOp2 at h
  refine ⟨Fz, ρ, L, S, ?_⟩
  cases e1 : m1 ρ with
  | stuck => rw [e1] at h; exact h
  | exn x => rw [e1] at h; exact h
  | ok z1 =>
    obtain ⟨d1, ρ1⟩ := z1
    rw [e1] at h
    intro v1 H1 Fz1 L1 Ld1 o1 S1 r1 n1 k1 q1
    refine ⟨Fz1, ρ1, L1, S1, ?_⟩
    rw [R.bind] at h
    cases e2 : m2 ρ1 with
    | stuck => rw [e2] at h; exact h
    | exn x =>
      rw [e2] at h
      intro cls dx H' Fz' o2 xr
      exact h cls dx H' Fz' (o1.transL o2 fun c z => k1 c (.inl z)) xr
    | ok z2 =>
      obtain ⟨d2, ρ2⟩ := z2
      rw [e2, R.bind] at h
      intro v2 H2 Fz2 L2 Ld2 o2 S2 r2 n2 k2 q2
      obtain ⟨r1', n1'⟩ := tmp_keep S1 o2 r1 n1
      have o := o1.transL o2 fun c z => k1 c (.inl z)
      have t1 : ∀ a ∈ Ld1, Trk H1 a := fun a ha => (r1.wr a ha).trk
      refine ⟨Fz2, none0, d1, d2, Ld1, Ld2, r1', r2, fun a ha z => ?_, ?_⟩
      · rcases k2 a (.inr z) with q | q
        · exact (n1 a ha).1 q
        · exact q (t1 a ha)
      · cases e3 : f d1 d2 with
        | none => simp only [e3, R.of, R.bind] at h
        | some d =>
          simp only [e3, R.of, R.bind] at h
          intro z H' Ld s r n
          refine h z H' Fz2 L2 Ld (o.trans0 (Out.same S2.trk S2.tabs s)) (S2.same s) r (fun a ha => ?_) (fun a ha => ?_) (q1.trans q2)
          · rcases n a ha with q | q | q
            · exact ⟨fun z => by
                rcases k2 a (.inl z) with u | u
                · exact (n1 a q).1 u
                · exact u (t1 a q), n1' a q⟩
            · exact n2 a q
            · exact ⟨fun z => not_trk q (S2.env.wr a z).trk, fun z => not_trk q (S2.trk a z)⟩
          · have back : ∀ a, a ∈ L1 ∨ ¬ Trk H1 a → a ∈ L ∨ ¬ Trk H a := fun a z => z.elim (fun z => k1 a (.inl z)) fun z => .inr fun t => z (o1.there a t)
            rcases ha with ha | ha
            · exact back a (k2 a (.inl ha))
            · rcases n a ha with q | q | q
              · exact k1 a (.inr q)
              · exact back a (k2 a (.inr q))
              · exact .inr fun t => not_trk q (o2.there a (o1.there a t))
theorem re_op2 {op : Operator} {f : D → D → Option D} (ho : OpR X (binaryOp op) (rD2 Γ f)) (h1 : PE X a (tE Γ W m1)) (h2 : PE X b (tE Γ W m2)) : PE X (.BinOp a op b pos) (tE Γ W (eOp2 f m1 m2)) :=
  PEi (pe_op ho h1 h2) fun _ _ _ h => imp_eop2 h
theorem re_cmp {op : CmpOp} {f : D → D → Option D} (ho : OpR X (compareOp op) (rD2 Γ f)) (h1 : PE X a (tE Γ W m1)) (h2 : PE X b (tE Γ W m2)) (hn : behindInMarks op b = false := by first | exact nomark _ | rfl) : PE X (.Compare a [op] [b] pos) (tE Γ W (eOp2 f m1 m2)) :=
  PEi (pe_cmpR ho h1 h2 hn) fun _ _ _ h => imp_eop2 h
theorem re_ix {f : D → D → Option D} (ho : IxR X (rD2 Γ f)) (h1 : PE X a (tE Γ W m1)) (h2 : PE X b (tE Γ W m2)) (hs : PlainIx b := by exact fun _ _ => rfl) : PE X (.Subscript a b pos) (tE Γ W (eOp2 f m1 m2)) :=
  PEi (pe_ix ho h1 h2 hs) fun _ _ _ h => imp_eop2 h
end
end DL

namespace DL
open PySem PySem.Spec L2
section
variable {Γ : Gm} {W : WX} {X : Cx} {a b c : Expr} {p p1 p2 : Pm} {m m1 m2 : Em} {q : EA'} {c1 c2 : Eb} {pos : Pos} {es : List Expr} {s1 s2 : Sm}

theorem imp_eop1 {f : D → Option D} {σ : L2.St} {H : Hp} {Q : VK} (h : tE Γ W (eOp1 f m1) σ H Q) : tUn (rD1 Γ f) (tE Γ W m1) σ H Q := by
  obtain ⟨Fz, ρ, L, S, h⟩ := h
  unfold eOp1 at h
  refine ⟨Fz, ρ, L, S, ?_⟩
  cases e1 : m1 ρ with
  | stuck => rw [e1] at h; exact h
  | exn x => rw [e1] at h; exact h
  | ok z1 =>
    obtain ⟨d1, ρ1⟩ := z1
    rw [e1] at h
    intro v1 H1 Fz1 L1 Ld1 o1 S1 r1 n1 k1 q1
    refine ⟨Fz1, none0, d1, Ld1, r1, ?_⟩
    cases e3 : f d1 with
    | none => simp only [e3, R.of, R.bind] at h
    | some d =>
      simp only [e3, R.of, R.bind] at h
      intro z H' Ld s r n
      refine h z H' Fz1 L1 Ld (o1.trans0 (Out.same S1.trk S1.tabs s)) (S1.same s) r (fun a ha => ?_) (fun a ha => ?_) q1
      · rcases n a ha with q | q
        · exact n1 a q
        · exact ⟨fun z => not_trk q (S1.env.wr a z).trk, fun z => not_trk q (S1.trk a z)⟩
      · rcases ha with ha | ha
        · exact k1 a (.inl ha)
        · rcases n a ha with q | q
          · exact k1 a (.inr q)
          · exact .inr fun t => not_trk q (o1.there a t)
theorem re_un {op : UnaryOp} {f : D → Option D} (ho : UnR X (unaryOp op) (rD1 Γ f)) (h1 : PE X a (tE Γ W m1)) : PE X (.UnaryOp op a pos) (tE Γ W (eOp1 f m1)) :=
  PEi (pe_un ho h1) fun _ _ _ h => imp_eop1 h
theorem imp_eopN {f : List D → Option D} {σ : L2.St} {H : Hp} {Q : VK} (h : tE Γ W (eOpN f q) σ H Q) : tCB (rDN Γ f) (tEA Γ W q) σ H Q := by
  obtain ⟨Fz, ρ, L, S, h⟩ := h
  unfold eOpN at h
  refine ⟨Fz, ρ, L, S, ?_⟩
  cases e1 : q ρ with
  | stuck => rw [e1] at h; exact h
  | exn x => rw [e1] at h; exact h
  | ok z1 =>
    obtain ⟨d1, ρ1⟩ := z1
    rw [e1] at h
    intro v1 H1 Fz1 L1 Ld1 o1 S1 r1 n1 k1 q1
    refine ⟨Fz1, none0, d1, Ld1, r1, ?_⟩
    cases e3 : f d1 with
    | none => simp only [e3, R.of, R.bind] at h
    | some d =>
      simp only [e3, R.of, R.bind] at h
      intro z H' Ld s r n
      refine h z H' Fz1 L1 Ld (o1.trans0 (Out.same S1.trk S1.tabs s)) (S1.same s) r (fun a ha => ?_) (fun a ha => ?_) q1
      · rcases n a ha with q | q
        · exact n1 a q
        · exact ⟨fun z => not_trk q (S1.env.wr a z).trk, fun z => not_trk q (S1.trk a z)⟩
      · rcases ha with ha | ha
        · exact k1 a (.inl ha)
        · rcases n a ha with q | q
          · exact k1 a (.inr q)
          · exact .inr fun t => not_trk q (o1.there a t)
theorem re_nil : PA X [] (tEA Γ W eNil) := by
  refine PAi pa_nil fun σ H Q h => ?_
  obtain ⟨Fz, ρ, L, S, h⟩ := h
  exact h [] H Fz L [] (.refl S.trk S.tabs) S .nil (fun a z => nomatch z) (fun a z => z.elim .inl fun z => nomatch z) (.refl ρ)
theorem re_cons {e : Expr} (ha : PE X e (tE Γ W m1)) (hr : PA X es (tEA Γ W q)) (hs : starEach (e :: es) X.env = (false, eval e X.env) :: starEach es X.env := by rfl) : PA X (e :: es) (tEA Γ W (eCons m1 q)) := by
  refine PAi (pa_cons ha hr hs) fun σ H Q h => ?_
  obtain ⟨Fz, ρ, L, S, h⟩ := h
  unfold eCons at h
  refine ⟨Fz, ρ, L, S, ?_⟩
  cases e1 : m1 ρ with
  | stuck => rw [e1] at h; exact h
  | exn x => rw [e1] at h; exact h
  | ok z1 =>
    obtain ⟨d1, ρ1⟩ := z1
    rw [e1] at h
    intro v1 H1 Fz1 L1 Ld1 o1 S1 r1 n1 k1 q1
    refine ⟨Fz1, ρ1, L1, S1, ?_⟩
    rw [R.bind] at h
    cases e2 : q ρ1 with
    | stuck => rw [e2] at h; exact h
    | exn x =>
      rw [e2] at h
      intro cls dx H' Fz' o2 xr
      exact h cls dx H' Fz' (o1.transL o2 fun c z => k1 c (.inl z)) xr
    | ok z2 =>
      obtain ⟨d2, ρ2⟩ := z2
      rw [e2, R.bind] at h
      intro v2 H2 Fz2 L2 Ld2 o2 S2 r2 n2 k2 q2
      obtain ⟨r1', n1'⟩ := tmp_keep S1 o2 r1 n1
      have o := o1.transL o2 fun c z => k1 c (.inl z)
      have t1 : ∀ a ∈ Ld1, Trk H1 a := fun a ha => (r1.wr a ha).trk
      have back : ∀ a, a ∈ L1 ∨ ¬ Trk H1 a → a ∈ L ∨ ¬ Trk H a := fun a z => z.elim (fun z => k1 a (.inl z)) fun z => .inr fun t => z (o1.there a t)
      refine h (v1 :: v2) H2 Fz2 L2 (Ld1 ++ Ld2) o S2 (.cons r1' r2 (fun a ha z => ?_) rfl) (fun a ha => ?_) (fun a ha => ?_) (q1.trans q2)
      · rcases k2 a (.inr z) with q | q
        · exact (n1 a ha).1 q
        · exact q (t1 a ha)
      · rcases List.mem_append.mp ha with q | q
        · exact ⟨fun z => by
            rcases k2 a (.inl z) with u | u
            · exact (n1 a q).1 u
            · exact u (t1 a q), n1' a q⟩
        · exact n2 a q
      · rcases ha with ha | ha
        · exact back a (k2 a (.inl ha))
        · rcases List.mem_append.mp ha with q | q
          · exact k1 a (.inr q)
          · exact back a (k2 a (.inr q))
theorem re_callB {x : Str} {id : String} {f : List D → Option D} {e : Expr} {p : Pos} (hc : CallR X (.builtin id) (rDN Γ f)) (hm : X.mg x = none) (ha : PA X (e :: es) (tEA Γ W q)) (hg : Gl X x := by rfl) (hv : bootBuiltins x = some (.builtin id) := by decide +kernel) (hn : x ≠ "__name__" := by decide) (hdb : (x == ("__debug__" : Str)) = false := by decide)
    (he : starEach (e :: es) X.env = (false, eval e X.env) :: starEach es X.env := by rfl) (hpl : (backTo pos (starEach es X.env)).any (·.1) = false := by rfl) : PE X (.Call (.Name x p) (e :: es) [] pos) (tE Γ W (eOpN f q)) :=
  PEi (pe_callB hc hg hm hv ha hn hdb he hpl) fun _ _ _ h => imp_eopN h
theorem re_callT {x : Str} {T : String} {f : List D → Option D} {e : Expr} {p : Pos} (hc : CallR X (.type T) (rDN Γ f)) (hm : X.mg x = none) (ha : PA X (e :: es) (tEA Γ W q)) (hg : Gl X x := by rfl) (hv : bootBuiltins x = some (.type T) := by decide +kernel) (hn : x ≠ "__name__" := by decide) (hdb : (x == ("__debug__" : Str)) = false := by decide)
    (he : starEach (e :: es) X.env = (false, eval e X.env) :: starEach es X.env := by rfl) (hpl : (backTo pos (starEach es X.env)).any (·.1) = false := by rfl) : PE X (.Call (.Name x p) (e :: es) [] pos) (tE Γ W (eOpN f q)) :=
  PEi (pe_callTy hc hg hm hv ha hn hdb he hpl) fun _ _ _ h => imp_eopN h
theorem rp_callT {x : Str} {T : String} {f : List D → Option D} {q : PA'} {e : Expr} {p : Pos} (hc : CallR X (.type T) (rDN Γ f)) (hm : X.mg x = none) (ha : PA X (e :: es) (tPA Γ W q)) (hg : Gl X x := by rfl) (hv : bootBuiltins x = some (.type T) := by decide +kernel) (hn : x ≠ "__name__" := by decide) (hdb : (x == ("__debug__" : Str)) = false := by decide)
    (he : starEach (e :: es) X.env = (false, eval e X.env) :: starEach es X.env := by rfl) (hpl : (backTo pos (starEach es X.env)).any (·.1) = false := by rfl) : PE X (.Call (.Name x p) (e :: es) [] pos) (tP Γ W (pOpN f q)) :=
  PEi (pe_callTy hc hg hm hv ha hn hdb he hpl) fun _ _ _ h => imp_opN h
/-! ### tests with effects -/
theorem imp_etst {σ : L2.St} {H : Hp} {Q : Bool → Hp → Prop} (h : tET Γ W (eTst m) σ H Q) : tTest (tE Γ W m) σ H Q := by
  obtain ⟨Fz, ρ, L, S, h⟩ := h
  unfold eTst at h
  refine ⟨Fz, ρ, L, S, ?_⟩
  cases e1 : m ρ with
  | stuck => rw [e1] at h; exact h
  | exn x => rw [e1] at h; exact h
  | ok z1 =>
    obtain ⟨d1, ρ1⟩ := z1
    rw [e1] at h
    intro v1 H1 Fz1 L1 Ld1 o1 S1 r1 n1 k1 q1
    cases d1 <;> first | exact h.elim | skip
    case bl b => exact ⟨b, r1.isBl, h H1 Fz1 L1 o1 S1 (fun a z => k1 a (.inl z)) q1⟩
theorem ret_val {e : Expr} (h : PE X e (tE Γ W m)) (he : ∀ whole, isTrue e X.env whole = (do let v ← whole; standAt e.pos; holding [v] (truthy v)) := by intro _; rfl) : PT X e (tET Γ W (eTst m)) :=
  PTi (pt_val h he) fun _ _ _ h => imp_etst h
theorem ret_cmp {op : CmpOp} {f : D → D → Option D} (ho : OpR X (compareOp op) (rD2 Γ f)) (h1 : PE X a (tE Γ W m1)) (h2 : PE X b (tE Γ W m2)) (hn : behindInMarks op b = false := by first | exact nomark _ | rfl) : PT X (.Compare a [op] [b] pos) (tET Γ W (eTst (eOp2 f m1 m2))) :=
  PTi (pt_cmpR ho h1 h2 hn) fun _ _ _ h => imp_eop2 (imp_etst h)
theorem imp_eif {σ : L2.St} {H : Hp} {Q : Bool → Hp → Prop} {t : Bool → TT} {k : Bool → Eb} {mm : Eb} (hk : ∀ b σ H Q, tET Γ W (k b) σ H Q → t b σ H Q) (h : tET Γ W (fun ρ => (mm ρ).bind fun x => k x.1 x.2) σ H Q) : tET Γ W mm σ H fun b H1 => t b σ H1 Q := by
  obtain ⟨Fz, ρ, L, S, h⟩ := h
  dsimp only at h
  refine ⟨Fz, ρ, L, S, ?_⟩
  cases e1 : mm ρ with
  | stuck => rw [e1] at h; exact h
  | exn x => rw [e1] at h; exact h
  | ok z1 =>
    obtain ⟨d1, ρ1⟩ := z1
    rw [e1] at h
    intro H1 Fz1 L1 o1 S1 k1 q1
    refine hk d1 σ H1 Q ⟨Fz1, ρ1, L1, S1, ?_⟩
    rw [R.bind] at h
    cases e2 : k d1 ρ1 with
    | stuck => rw [e2] at h; exact h
    | exn x => rw [e2] at h; intro cls dx H' Fz' o2 xr; exact h cls dx H' Fz' (o1.transL o2 k1) xr
    | ok z2 =>
      obtain ⟨d2, ρ2⟩ := z2
      rw [e2] at h
      intro H2 Fz2 L2 o2 S2 k2 q2
      exact h H2 Fz2 L2 (o1.transL o2 k1) S2 (fun a z => (k2 a z).elim (k1 a) fun z => .inr fun t => z (o1.there a t)) (q1.trans q2)
theorem ret_const {σ : L2.St} {H : Hp} {Q : Bool → Hp → Prop} {k : Bool} (h : tET Γ W (fun ρ => .ok (k, ρ)) σ H Q) : Q k H := by
  obtain ⟨Fz, ρ, L, S, h⟩ := h
  exact h H Fz L (.refl S.trk S.tabs) S (fun a z => .inl z) (.refl ρ)
theorem rew_and1 (h : PT X a (tET Γ W c1)) : PW X (.BoolOp .And [a] pos) (tET Γ W c1) := pw_and1 h
theorem rew_or1 (h : PT X a (tET Γ W c1)) : PW X (.BoolOp .Or [a] pos) (tET Γ W c1) := pw_or1 h
theorem rew_and {rest : List Expr} (h1 : PT X a (tET Γ W c1)) (h2 : PW X (.BoolOp .And (b :: rest) pos) (tET Γ W c2)) : PW X (.BoolOp .And (a :: b :: rest) pos) (tET Γ W (eAnd c1 c2)) := by
  refine PWi (pw_and h1 h2) fun σ H Q h => ?_
  refine imp_eif (t := fun b σ H Q => if b = true then tET Γ W c2 σ H Q else Q false H) (k := fun b ρ => if b then c2 ρ else .ok (false, ρ)) (fun b σ H Q h => ?_) h
  cases b with
  | true => exact h
  | false => exact ret_const h
theorem rew_or {rest : List Expr} (h1 : PT X a (tET Γ W c1)) (h2 : PW X (.BoolOp .Or (b :: rest) pos) (tET Γ W c2)) : PW X (.BoolOp .Or (a :: b :: rest) pos) (tET Γ W (eOr c1 c2)) := by
  refine PWi (pw_or h1 h2) fun σ H Q h => ?_
  refine imp_eif (t := fun b σ H Q => if b = true then Q true H else tET Γ W c2 σ H Q) (k := fun b ρ => if b then .ok (true, ρ) else c2 ρ) (fun b σ H Q h => ?_) h
  cases b with
  | true => exact ret_const h
  | false => exact h
theorem ret_not (h : PT X a (tET Γ W c1)) : PT X (.UnaryOp .Not a pos) (tET Γ W (eNot c1)) := by
  refine PTi (pt_not h) fun σ H Q h => ?_
  exact imp_eif (t := fun b σ H Q => Q (!b) H) (k := fun b ρ => .ok (!b, ρ)) (fun b σ H Q h => ret_const h) h

/-! ### statements -/
theorem sOut_id {Fz : AS} {H : Hp} {σ : L2.St} {ρ : List Sl} {L : List Addr} {Q : L2.St → Hp → Prop} (S : Stt Γ Fz H σ ρ L) (h : SOut Γ Fz H L ρ σ ρ Q) : Q σ H := h σ H Fz L (.refl S.trk S.tabs) S (fun _ z => .inl z) (.refl ρ σ)
theorem SOut.after {Fz Fz1 : AS} {H H1 : Hp} {σ σ1 : L2.St} {ρ ρ1 ρ2 : List Sl} {L L1 : List Addr} {Q : L2.St → Hp → Prop} (h : SOut Γ Fz H L ρ σ ρ2 Q) (o1 : Out Γ Fz H (· ∈ L) Fz1 H1) (k1 : ∀ a ∈ L1, a ∈ L ∨ ¬ Trk H a) (p1 : Pins ρ σ ρ1 σ1) : SOut Γ Fz1 H1 L1 ρ1 σ1 ρ2 Q :=
  fun σ' H' Fz' L' o2 S2 k2 p2 => h σ' H' Fz' L' (o1.transL o2 k1) S2 (fun a z => (k2 a z).elim (k1 a) fun z => .inr fun t => z (o1.there a t)) (p1.trans p2)
theorem SPost.after {Fz Fz1 : AS} {H H1 : Hp} {σ σ1 : L2.St} {ρ ρ1 : List Sl} {L L1 : List Addr} {D : Ends} {r : R Fw} (o1 : Out Γ Fz H (· ∈ L) Fz1 H1) (k1 : ∀ a ∈ L1, a ∈ L ∨ ¬ Trk H a) (p1 : Pins ρ σ ρ1 σ1) (h : SPost Γ W Fz H L ρ σ D r) : SPost Γ W Fz1 H1 L1 ρ1 σ1 D r := by
  cases r with
  | stuck => exact h
  | exn x => intro cls dx σ' H' Fz' o2 xr; exact h cls dx σ' H' Fz' (o1.transL o2 k1) xr
  | ok f =>
    cases f with
    | nx ρ' => exact SOut.after h o1 k1 p1
    | bk ρ' => exact SOut.after h o1 k1 p1
    | ct ρ' => exact SOut.after h o1 k1 p1
    | rt d ρ' =>
      intro v σ' H' Fz' L' Ld o2 S2 r n2 k2 p2
      exact h v σ' H' Fz' L' Ld (o1.transL o2 k1) S2 r n2 (fun a z => (k2 a z).elim (k1 a) fun z => .inr fun t => z (o1.there a t)) (p1.trans p2)
/-- what follows a step, from its state -/
theorem tS_after {Fz Fz1 : AS} {H H1 : Hp} {σ σ1 : L2.St} {ρ ρ1 : List Sl} {L L1 : List Addr} {D : Ends} {n : Sm} (S1 : Stt Γ Fz1 H1 σ1 ρ1 L1) (o1 : Out Γ Fz H (· ∈ L) Fz1 H1) (k1 : ∀ a ∈ L1, a ∈ L ∨ ¬ Trk H a) (p1 : Pins ρ σ ρ1 σ1)
    (h : SPost Γ W Fz H L ρ σ D (n ρ1)) : tS Γ W n D σ1 H1 := ⟨Fz1, ρ1, L1, S1, SPost.after o1 k1 p1 h⟩
theorem imp_seq {D : Ends} {σ : L2.St} {H : Hp} (h : tS Γ W (sSeq s1 s2) D σ H) : tSeq (tS Γ W s1) (tS Γ W s2) D σ H := by
  obtain ⟨Fz, ρ, L, S, h⟩ := h
  unfold sSeq at h
  refine ⟨Fz, ρ, L, S, ?_⟩
  cases e1 : s1 ρ with
  | stuck => rw [e1] at h; exact h
  | exn x => rw [e1] at h; exact h
  | ok f =>
    rw [e1, R.bind] at h
    cases f with
    | nx ρ1 => exact fun σ1 H1 Fz1 L1 o1 S1 k1 p1 => tS_after S1 o1 k1 p1 h
    | bk ρ1 => exact h
    | ct ρ1 => exact h
    | rt d ρ1 => exact h
theorem rs_nil : PSs X [] (tS Γ W sNil) := by
  refine PSsi pss_nil fun D σ H h => ?_
  obtain ⟨Fz, ρ, L, S, h⟩ := h
  exact sOut_id S h
theorem rs_pass : PS X (.Pass pos) (tS Γ W sNil) := by
  refine PSi ps_pass fun D σ H h => ?_
  obtain ⟨Fz, ρ, L, S, h⟩ := h
  exact sOut_id S h
theorem rs_brk : PS X (.Break pos) (tS Γ W sBrk) := by
  refine PSi ps_break fun D σ H h => ?_
  obtain ⟨Fz, ρ, L, S, h⟩ := h
  exact sOut_id (Q := D.bk) S h
theorem rs_cnt : PS X (.Continue pos) (tS Γ W sCnt) := by
  refine PSi ps_continue fun D σ H h => ?_
  obtain ⟨Fz, ρ, L, S, h⟩ := h
  exact sOut_id (Q := D.ct) S h
theorem rs_cons {st : Stmt} {rest : List Stmt} (h1 : PS X st (tS Γ W s1)) (h2 : PSs X rest (tS Γ W s2)) : PSs X (st :: rest) (tS Γ W (sSeq s1 s2)) := PSsi (pss_cons h1 h2) fun _ _ _ h => imp_seq h
theorem rs_one {st : Stmt} (h1 : PS X st (tS Γ W s1)) : PSs X [st] (tS Γ W s1) := pss_one h1
theorem rs_if {c : Expr} {u v : List Stmt} (hc : PT X c (tET Γ W c1)) (h1 : PSs X u (tS Γ W s1)) (h2 : PSs X v (tS Γ W s2)) : PS X (.If c u v pos) (tS Γ W (sIf c1 s1 s2)) := by
  refine PSi (ps_if hc h1 h2) fun D σ H h => ?_
  obtain ⟨Fz, ρ, L, S, h⟩ := h
  unfold sIf at h
  refine ⟨Fz, ρ, L, S, ?_⟩
  cases e1 : c1 ρ with
  | stuck => rw [e1] at h; exact h
  | exn x => rw [e1] at h; intro cls dx H' Fz' o xr; exact h cls dx σ H' Fz' o xr
  | ok z1 =>
    obtain ⟨b, ρ1⟩ := z1
    rw [e1, R.bind] at h
    intro H1 Fz1 L1 o1 S1 k1 q1
    have p1 := q1.pins σ
    cases b with
    | true => exact tS_after S1 o1 k1 p1 h
    | false => exact tS_after S1 o1 k1 p1 h
/-- from an expression's end to a statement's -/
theorem rs_expr {e : Expr} (he : PE X e (tE Γ W m)) (hs : swapsWith e none pos.line X.env = pure false := by rfl) : PS X (.Expr e pos) (tS Γ W (sExpr m)) := by
  refine PSi (ps_expr he hs) fun D σ H h => ?_
  obtain ⟨Fz, ρ, L, S, h⟩ := h
  unfold sExpr at h
  refine ⟨Fz, ρ, L, S, ?_⟩
  cases e1 : m ρ with
  | stuck => rw [e1] at h; exact h
  | exn x => rw [e1] at h; intro cls dx H' Fz' o xr; exact h cls dx σ H' Fz' o xr
  | ok z1 =>
    obtain ⟨d, ρ1⟩ := z1
    rw [e1, R.bind] at h
    intro v1 H1 Fz1 L1 Ld1 o1 S1 r1 n1 k1 q1
    exact h σ H1 Fz1 L1 o1 S1 (fun a z => k1 a (.inl z)) (q1.pins σ)
theorem rs_ret {e : Expr} (he : PE X e (tE Γ W m)) : PS X (.Return (some e) pos) (tS Γ W (sRet m)) := by
  refine PSi (ps_ret he) fun D σ H h => ?_
  obtain ⟨Fz, ρ, L, S, h⟩ := h
  unfold sRet at h
  refine ⟨Fz, ρ, L, S, ?_⟩
  cases e1 : m ρ with
  | stuck => rw [e1] at h; exact h
  | exn x => rw [e1] at h; intro cls dx H' Fz' o xr; exact h cls dx σ H' Fz' o xr
  | ok z1 =>
    obtain ⟨d, ρ1⟩ := z1
    rw [e1, R.bind] at h
    intro v1 H1 Fz1 L1 Ld1 o1 S1 r1 n1 k1 q1
    exact h v1 σ H1 Fz1 L1 Ld1 o1 S1 r1 n1 k1 (q1.pins σ)
theorem rs_retN : PS X (.Return none pos) (tS Γ W sRetN) := by
  refine PSi ps_retN fun D σ H h => ?_
  obtain ⟨Fz, ρ, L, S, h⟩ := h
  exact h .non σ H Fz L [] (.refl S.trk S.tabs) S .non (fun a z => nomatch z) (fun a z => z.elim .inl fun z => nomatch z) (.refl ρ σ)
/-- a name is stored -/
theorem set_out {Fz Fz1 : AS} {H H1 : Hp} {σ : L2.St} {ρ ρ1 : List Sl} {L L1 Ld : List Addr} {i : Nat} {v : V} {d : D} {Q : L2.St → Hp → Prop} (o1 : Out Γ Fz H (· ∈ L) Fz1 H1) (S1 : Stt Γ Fz1 H1 σ ρ1 L1) (r1 : Rep Γ Fz1 none0 H1 v d Ld) (n1 : ∀ a ∈ Ld, a ∉ L1 ∧ ¬ Fz1 a)
    (k1 : ∀ a, a ∈ L1 ∨ a ∈ Ld → a ∈ L ∨ ¬ Trk H a) (q1 : PinE ρ ρ1) (hi : i < ρ1.length) (hp : ∀ d, ρ1[i]? ≠ some (.val true d)) (h : SOut Γ Fz H L ρ σ (ρ1.set i (.val false d)) Q) : Q (σ.set i (some v)) H1 := by
  have hl := S1.env.len
  obtain ⟨Lr, e1, e2⟩ := S1.env.drop i (some v)
  obtain ⟨L', e3, e4⟩ := e2.put (i := i) (v := v) false (by simp [hi]) (by simp [hl, hi]) r1 fun a ha z => (n1 a ha).1 (e1 a z)
  rw [List.set_set] at e4
  refine h _ H1 Fz1 L' o1 ⟨e4, fun a ha => ?_, S1.trk, S1.tabs⟩ (fun a ha => ?_) fun j d' ej => ?_
  · rcases (e3 a).mp ha with z | z
    · exact (n1 a z).2
    · exact S1.dis a (e1 a z)
  · rcases (e3 a).mp ha with z | z
    · exact k1 a (.inr z)
    · exact k1 a (.inl (e1 a z))
  · obtain ⟨d2, e5⟩ := q1 j d' ej
    have hij : i ≠ j := fun z => by subst z; exact hp d2 e5
    exact ⟨List.getElem?_set_ne hij, d2, by rw [List.getElem?_set_ne hij]; exact e5⟩
theorem rs_set {i : Nat} {x : Str} {e : Expr} {pos' : Pos} (hN : X.N.Nodup) (hx : Loc X.env.scope x) (he : PE X e (tE Γ W m)) (hi : X.N[i]? = some x := by rfl) (hs : swapsWith e (some (.Name x pos')) pos.line X.env = pure false := by rfl) (hf : X.fn x = true ∨ X.env.scope.names.lookup x = some .local := by first | exact .inl rfl | exact .inr rfl) : PS X (.Assign [.Name x pos'] e pos) (tS Γ W (sSet i m)) := by
  refine PSi (ps_set hN hi hx he hs hf) fun D σ H h => ?_
  obtain ⟨Fz, ρ, L, S, h⟩ := h
  unfold sSet at h
  refine ⟨Fz, ρ, L, S, ?_⟩
  cases e1 : m ρ with
  | stuck => rw [e1] at h; exact h
  | exn x => rw [e1] at h; intro cls dx H' Fz' o xr; exact h cls dx σ H' Fz' o xr
  | ok z1 =>
    obtain ⟨d, ρ1⟩ := z1
    rw [e1, R.bind] at h
    dsimp only at h
    intro v1 H1 Fz1 L1 Ld1 o1 S1 r1 n1 k1 q1
    cases e2 : ρ1[i]? with
    | none => rw [e2] at h; exact h.elim
    | some sl =>
      have hl : i < ρ1.length := (List.getElem?_eq_some_iff.mp e2).1
      rw [e2] at h
      cases sl with
      | emp => exact set_out (Q := D.nx) o1 S1 r1 n1 k1 q1 hl (fun d z => by rw [e2] at z; cases z) h
      | val p d' =>
        cases p with
        | true => exact h.elim
        | false => exact set_out (Q := D.nx) o1 S1 r1 n1 k1 q1 hl (fun d z => by rw [e2] at z; cases z) h
end
end DL

namespace DL
open PySem PySem.Spec L2

/-! ### targets -/
abbrev Tg := D → List Sl → Option (List Sl)
def tgN (i : Nat) : Tg := fun d ρ => match ρ[i]? with
  | some .emp => some (ρ.set i (.val false d))
  | some (.val false _) => some (ρ.set i (.val false d))
  | _ => none
def tgL : List Tg → List D → List Sl → Option (List Sl)
  | [], [], ρ => some ρ
  | t :: ts, d :: ds, ρ => (t d ρ).bind fun ρ1 => tgL ts ds ρ1
  | _, _, _ => none
def tgT (ts : List Tg) : Tg := fun d ρ => match d with
  | .tup ds => tgL ts ds ρ
  | _ => none
def GOk (Γ : Gm) (g : TG) (t : Tg) (ts : List Nat) : Prop := ∀ (Fz : AS) (H : Hp) (σ : L2.St) (ρ : List Sl) (L : List Addr) (v : V) (d : D) (Ld : List Addr) (Q : L2.St → Hp → Prop) (ρ' : List Sl), Stt Γ Fz H σ ρ L → Rep Γ Fz none0 H v d Ld → (∀ a ∈ Ld, a ∉ L ∧ ¬ Fz a) → t d ρ = some ρ' →
  (∀ σ' L', Stt Γ Fz H σ' ρ' L' → (∀ a ∈ L', a ∈ L ∨ a ∈ Ld) → Pins ρ σ ρ' σ' → σ'.length = σ.length → (∀ j, j ∉ ts → σ'[j]? = σ[j]?) → Q σ' H) → g v σ H Q
def GsOk (Γ : Gm) (g : TGs) (ts : List Tg) (ns : List Nat) : Prop := ∀ (Fz : AS) (H : Hp) (σ : L2.St) (ρ : List Sl) (L : List Addr) (vs : List V) (ds : List D) (Ld : List Addr) (Q : L2.St → Hp → Prop) (ρ' : List Sl), Stt Γ Fz H σ ρ L → Reps Γ Fz none0 H vs ds Ld → (∀ a ∈ Ld, a ∉ L ∧ ¬ Fz a) → tgL ts ds ρ = some ρ' →
  (∀ σ' L', Stt Γ Fz H σ' ρ' L' → (∀ a ∈ L', a ∈ L ∨ a ∈ Ld) → Pins ρ σ ρ' σ' → σ'.length = σ.length → (∀ j, j ∉ ns → σ'[j]? = σ[j]?) → Q σ' H) → g vs σ H Q
/-- a target with its program on data -/
structure PGd (Γ : Gm) (X : Cx) (e : Expr) (t : Tg) (ts : List Nat) : Prop where
  ex : ∃ g, PG X e g ∧ GOk Γ g t ts
structure PGsd (Γ : Gm) (X : Cx) (e : List Expr) (ts : List Tg) (ns : List Nat) : Prop where
  ex : ∃ g, PGs X e g ∧ GsOk Γ g ts ns
section
variable {Γ : Gm} {X : Cx}
theorem gName_ok (i : Nat) : GOk Γ (gName i) (tgN i) [i] := by
  intro Fz H σ ρ L v d Ld Q ρ' S r n e h
  have main : i < ρ.length → (∀ d, ρ[i]? ≠ some (.val true d)) → ρ' = ρ.set i (.val false d) → Q (σ.set i (some v)) H := fun hi hp e => by
    subst e
    have hl := S.env.len
    obtain ⟨Lr, e1, e2⟩ := S.env.drop i (some v)
    obtain ⟨L', e3, e4⟩ := e2.put (i := i) (v := v) false (by simp [hi]) (by simp [hl, hi]) r fun a ha z => (n a ha).1 (e1 a z)
    rw [List.set_set] at e4
    refine h _ L' ⟨e4, fun a ha => ?_, S.trk, S.tabs⟩ (fun a ha => ?_) (fun j d' ej => ?_) (by simp) fun j hj => List.getElem?_set_ne fun (z : i = j) => hj (by simp [z])
    · rcases (e3 a).mp ha with z | z
      · exact (n a z).2
      · exact S.dis a (e1 a z)
    · rcases (e3 a).mp ha with z | z
      · exact .inr z
      · exact .inl (e1 a z)
    · have hij : i ≠ j := fun z => by subst z; exact hp d' ej
      exact ⟨List.getElem?_set_ne hij, d', by rw [List.getElem?_set_ne hij]; exact ej⟩
  unfold tgN at e
  cases e2 : ρ[i]? with
  | none => rw [e2] at e; cases e
  | some sl =>
    have hl : i < ρ.length := (List.getElem?_eq_some_iff.mp e2).1
    rw [e2] at e
    cases sl with
    | emp => exact main hl (fun d z => by rw [e2] at z; cases z) (Option.some.inj e).symm
    | val p d' =>
      cases p with
      | true => cases e
      | false => exact main hl (fun d z => by rw [e2] at z; cases z) (Option.some.inj e).symm
theorem rg_name {i : Nat} {x : Str} {pos : Pos} (hN : X.N.Nodup) (hx : Loc X.env.scope x) (hi : X.N[i]? = some x := by rfl) (hf : X.fn x = true ∨ X.env.scope.names.lookup x = some .local := by first | exact .inl rfl | exact .inr rfl) : PGd Γ X (.Name x pos) (tgN i) [i] := ⟨_, pg_name hN hi hx hf, gName_ok i⟩
theorem rgs_nil : PGsd Γ X [] [] [] := ⟨_, pgs_nil, fun Fz H σ ρ L vs ds Ld Q ρ' S r n e h => by
  cases r with
  | nil => cases e; exact ⟨rfl, h σ L S (fun a z => .inl z) (.refl ρ σ) rfl fun _ _ => rfl⟩
  | cons _ _ _ _ => cases e⟩
theorem rgs_cons {e : Expr} {es : List Expr} {t : Tg} {ts : List Tg} {n1 n2 : List Nat} (h1 : PGd Γ X e t n1) (h2 : PGsd Γ X es ts n2) (hs : List.map (fun x => x.snd) (assignEach (e :: es) X.env) = assign e X.env :: List.map (fun x => x.snd) (assignEach es X.env) := by rfl) : PGsd Γ X (e :: es) (t :: ts) (n1 ++ n2) := by
  obtain ⟨g1, p1, k1⟩ := h1
  obtain ⟨g2, p2, k2⟩ := h2
  refine ⟨_, pgs_cons p1 p2 hs, fun Fz H σ ρ L vs ds Ld Q ρ' S r n e h => ?_⟩
  cases r with
  | nil => cases e
  | @cons v d vs ds L1 L2 _ r tt s el =>
    subst el
    unfold tgL at e
    cases e1 : t d ρ with
    | none => rw [e1] at e; cases e
    | some ρ1 =>
      rw [e1] at e
      refine ⟨v, vs, rfl, k1 Fz H σ ρ L v d L1 _ ρ1 S r (fun a ha => n a (List.mem_append_left _ ha)) e1 fun σ1 L' S1 m1 p1 l1 a1 => ?_⟩
      refine k2 Fz H σ1 ρ1 L' vs ds L2 _ ρ' S1 tt (fun a ha => ⟨fun z => ?_, (n a (List.mem_append_right _ ha)).2⟩) e fun σ2 L2' S2 m2 p2 l2 a2 => h σ2 L2' S2 (fun a z => ?_) (p1.trans p2) (l2.trans l1) fun j hj => (a2 j fun z => hj (List.mem_append_right _ z)).trans (a1 j fun z => hj (List.mem_append_left _ z))
      · rcases m1 a z with q | q
        · exact (n a (List.mem_append_right _ ha)).1 q
        · exact s a q ha
      · rcases m2 a z with q | q
        · exact (m1 a q).elim .inl fun q => .inr (List.mem_append_left _ q)
        · exact .inr (List.mem_append_right _ q)
theorem tgL_len : ∀ {ts : List Tg} {ds : List D} {ρ ρ' : List Sl}, tgL ts ds ρ = some ρ' → ts.length = ds.length
  | [], [], _, _, _ => rfl
  | [], _ :: _, _, _, h => by cases h
  | _ :: _, [], _, _, h => by cases h
  | t :: ts, d :: ds, ρ, ρ', h => by
    unfold tgL at h
    cases e : t d ρ with
    | none => rw [e] at h; cases h
    | some ρ1 => rw [e] at h; exact congrArg (· + 1) (tgL_len (show tgL ts ds ρ1 = some ρ' from h))
theorem rg_tup {es : List Expr} {k : Nat} {ts : List Tg} {ns : List Nat} {pos : Pos} (hc : X.calm = true) (h : PGsd Γ X es ts ns) (hK : X.K = Γ.K) (hn : (assignEach es X.env).length = ts.length := by rfl) (hst : (assignEach es X.env).findIdx? (·.1) = none := by rfl) : PGd Γ X (.Tuple es k pos) (tgT ts) ns := by
  obtain ⟨g, p, kk⟩ := h
  refine ⟨_, pg_tup hc p hn hst, fun Fz H σ ρ L v d Ld Q ρ' S r n e h => ?_⟩
  cases r <;> first | (simp only [tgT] at e; cases e; done) | skip
  case tup a vs ds h1 r1 =>
    have e' : tgL ts ds ρ = some ρ' := e
    exact ⟨a, vs, rfl, by rw [hK]; exact h1, by rw [Reps.len r1, tgL_len e'], kk Fz H σ ρ L vs ds Ld Q ρ' S r1 n e' h⟩
end

/-! ### what is walked -/
structure ItOk (Γ : Gm) (J : It) (ds : List D) (P : AS → Hp → Prop) : Prop where
  stay : ∀ Fz H M Fz' H', P Fz H → Out Γ Fz H M Fz' H' → MutS M H → (∀ a, Fz a → ¬ M a) → P Fz' H'
  go : ∀ Fz H i, P Fz H → i < ds.length → J.go i H
  yld : ∀ Fz H i d x H', P Fz H → ds[i]? = some d → J.yld i H x H' → Same H H' ∧ Rep Γ Fz none0 H' x d []
  stop : ∀ Fz H, P Fz H → J.stop ds.length H
abbrev Im := List Sl → R (List D × List Sl)
def tI (Γ : Gm) (W : WX) (m : Im) : TI := fun σ H R => ∃ Fz ρ L, Stt Γ Fz H σ ρ L ∧ match m ρ with
  | .ok (ds, ρ') => ∀ J H' Fz' L' P, Out Γ Fz H (· ∈ L) Fz' H' → Stt Γ Fz' H' σ ρ' L' → (∀ a ∈ L', a ∈ L ∨ ¬ Trk H a) → PinE ρ ρ' → ItOk Γ J ds P → P Fz' H' → R J H'
  | .exn x => ∀ cls dx H' Fz' , Out Γ Fz H (· ∈ L) Fz' H' → XRep Γ H' x cls dx → W cls dx σ H'
  | .stuck => False

/-! ### for -/
def forL (t : Tg) (b : Sm) : List D → List Sl → R Fw
  | [], ρ => .ok (.nx ρ)
  | d :: ds, ρ => (R.of (t d ρ)).bind fun ρ1 => (b ρ1).bind fun f => match f with
    | .nx ρ2 => forL t b ds ρ2
    | .ct ρ2 => forL t b ds ρ2
    | .bk ρ2 => .ok (.nx ρ2)
    | .rt d ρ2 => .ok (.rt d ρ2)
def sFor (m : Im) (t : Tg) (b : Sm) : Sm := fun ρ => (m ρ).bind fun x => forL t b x.1 x.2
section
variable {Γ : Gm} {W : WX} {X : Cx} {a b c : Expr} {m : Im} {pos : Pos} {s : Sm} {t : Tg}
theorem rs_for {tg iter : Expr} {body : List Stmt} {ns : List Nat} (hc : X.calm = true) (hp : PassesOwn (model X.prog X.w) X.A X.env X.xe) (hi : PI X tg iter (tI Γ W m)) (hg : PGd Γ X tg t ns) (hb : PSs X body (tS Γ W s)) (hs : ∀ x, foldedSetIterable iter X.env x = pure x := by intro _; rfl) :
    PS X (.For tg iter body [] pos) (tS Γ W (sFor m t s)) := by
  obtain ⟨g, hg, gk⟩ := hg
  refine PSi (ps_for hp hc hi hg hb hs) fun D σ H h => ?_
  obtain ⟨Fz, ρ, L, S, h⟩ := h
  unfold sFor at h
  refine ⟨Fz, ρ, L, S, ?_⟩
  cases e1 : m ρ with
  | stuck => rw [e1] at h; exact h
  | exn x => rw [e1] at h; intro cls dx H' Fz' o xr; exact h cls dx σ H' Fz' o xr
  | ok z1 =>
    obtain ⟨ds, ρ1⟩ := z1
    rw [e1, R.bind] at h
    dsimp only at h
    intro J H1 Fz1 L1 P o1 S1 k1 q1 ik pp
    refine ⟨fun i n σ' H' => n = ds.length - i ∧ i ≤ ds.length ∧ ∃ Fz' ρ' L', Out Γ Fz H (· ∈ L) Fz' H' ∧ Stt Γ Fz' H' σ' ρ' L' ∧ (∀ a ∈ L', a ∈ L ∨ ¬ Trk H a) ∧ Pins ρ σ ρ' σ' ∧ P Fz' H' ∧ SPost Γ W Fz H L ρ σ D (forL t s (ds.drop i) ρ'),
      ⟨_, rfl, Nat.zero_le _, Fz1, ρ1, L1, o1, S1, k1, q1.pins σ, pp, h⟩, ?_⟩
    rintro i n σ2 H2 ⟨rfl, hi, Fz2, ρ2, L2, o2, S2, k2, p2, pp2, h2⟩
    by_cases hlt : i < ds.length
    · refine .inr ⟨ik.go _ _ _ pp2 hlt, fun σ' H' => i + 1 ≤ ds.length ∧ ∃ Fz' ρ' L', Out Γ Fz H (· ∈ L) Fz' H' ∧ Stt Γ Fz' H' σ' ρ' L' ∧ (∀ a ∈ L', a ∈ L ∨ ¬ Trk H a) ∧ Pins ρ σ ρ' σ' ∧ P Fz' H' ∧ SPost Γ W Fz H L ρ σ D (forL t s (ds.drop (i + 1)) ρ'),
        fun σ' H' hN => ⟨ds.length - (i + 1), by omega, rfl, hN⟩, fun x H3 y => ?_⟩
      have ed : ds.drop i = ds[i] :: ds.drop (i + 1) := List.drop_eq_getElem_cons hlt
      rw [ed] at h2
      obtain ⟨sm, r⟩ := ik.yld _ _ _ ds[i] x H3 pp2 (List.getElem?_eq_getElem hlt) y
      have o3 : Out Γ Fz2 H2 none0 Fz2 H3 := Out.same S2.trk S2.tabs sm
      have S3 := S2.grow o3
      have pp3 := ik.stay _ _ _ _ _ pp2 o3 mutS0 fun _ _ z => z
      unfold forL at h2
      cases e4 : t ds[i] ρ2 with
      | none => rw [e4] at h2; exact h2.elim
      | some ρ4 =>
        rw [e4, R.of, R.bind] at h2
        refine gk Fz2 H3 σ2 ρ2 L2 x ds[i] [] _ ρ4 S3 r (fun a z => nomatch z) e4 fun σ4 L4 S4 m4 p4 _ _ => ?_
        have o4 := o2.trans0 o3
        have k4 : ∀ a ∈ L4, a ∈ L ∨ ¬ Trk H a := fun a z => (m4 a z).elim (k2 a) fun z => nomatch z
        refine ⟨Fz2, ρ4, L4, S4, ?_⟩
        -- the loop's invariant behind the body
        have again : ∀ ρ5 (Q : Sg → Hp → Prop), SPost Γ W Fz H L ρ σ D (forL t s (ds.drop (i + 1)) ρ5) → (∀ σ' H', (i + 1 ≤ ds.length ∧ ∃ Fz' ρ' L', Out Γ Fz H (· ∈ L) Fz' H' ∧ Stt Γ Fz' H' σ' ρ' L' ∧ (∀ a ∈ L', a ∈ L ∨ ¬ Trk H a) ∧ Pins ρ σ ρ' σ' ∧ P Fz' H' ∧ SPost Γ W Fz H L ρ σ D (forL t s (ds.drop (i + 1)) ρ')) → Q σ' H') → SOut Γ Fz2 H3 L4 ρ4 σ4 ρ5 Q :=
          fun ρ5 Q hh hq σ6 H6 Fz6 L6 o6 S6 k6 p6 => hq σ6 H6 ⟨hlt, Fz6, ρ5, L6, o4.transL o6 k4, S6, fun a z => (k6 a z).elim (k4 a) fun z => .inr fun t => z (o4.there a t), (p2.trans p4).trans p6,
            ik.stay _ _ _ _ _ pp3 o6 S4.wr (fun a z u => S4.dis a u z), hh⟩
        cases e5 : s ρ4 with
        | stuck => rw [e5] at h2; exact h2
        | exn x => rw [e5] at h2; intro cls dx σ' H' Fz' o6 xr; exact h2 cls dx σ' H' Fz' (o4.transL o6 k4) xr
        | ok f =>
          rw [e5, R.bind] at h2
          cases f with
          | nx ρ5 => exact again ρ5 _ h2 fun σ' H' z => z
          | ct ρ5 => exact again ρ5 _ h2 fun σ' H' z => z
          | bk ρ5 => exact SOut.after (ρ2 := ρ5) (Q := D.nx) h2 o4 k4 (p2.trans p4)
          | rt d ρ5 => exact SPost.after (D := D) (r := .ok (.rt d ρ5)) o4 k4 (p2.trans p4) h2
    · have e : i = ds.length := by omega
      subst e
      rw [List.drop_length] at h2
      exact .inl ⟨ik.stop _ _ pp2, h2 σ2 H2 Fz2 L2 o2 S2 k2 p2⟩
end

/-! ### while -/
def whileL (c : Eb) (b : Sm) : Nat → List Sl → R Fw
  | 0, _ => .stuck
  | n + 1, ρ => (c ρ).bind fun x => if x.1 then (b x.2).bind fun f => match f with
      | .nx ρ2 => whileL c b n ρ2
      | .ct ρ2 => whileL c b n ρ2
      | .bk ρ2 => .ok (.nx ρ2)
      | .rt d ρ2 => .ok (.rt d ρ2)
    else .ok (.nx x.2)
section
variable {Γ : Gm} {W : WX} {X : Cx} {c : Expr} {pos : Pos} {s : Sm} {ct : Eb}
theorem rs_while {body : List Stmt} (n : Nat) (hp : PassesOwn (model X.prog X.w) X.A X.env X.xe) (hc : PT X c (tET Γ W ct)) (hb : PSs X body (tS Γ W s)) : PS X (.While c body [] pos) (tS Γ W (whileL ct s n)) := by
  refine PSi (ps_while hp hc hb) fun D σ H h => ?_
  obtain ⟨Fz, ρ, L, S, h⟩ := h
  refine ⟨fun n σ' H' => ∃ Fz' ρ' L', Out Γ Fz H (· ∈ L) Fz' H' ∧ Stt Γ Fz' H' σ' ρ' L' ∧ (∀ a ∈ L', a ∈ L ∨ ¬ Trk H a) ∧ Pins ρ σ ρ' σ' ∧ SPost Γ W Fz H L ρ σ D (whileL ct s n ρ'), ⟨n, Fz, ρ, L, .refl S.trk S.tabs, S, fun a z => .inl z, .refl ρ σ, h⟩, ?_⟩
  rintro n σ2 H2 ⟨Fz2, ρ2, L2, o2, S2, k2, p2, h2⟩
  cases n with
  | zero => exact h2.elim
  | succ n =>
    unfold whileL at h2
    refine ⟨Fz2, ρ2, L2, S2, ?_⟩
    cases e1 : ct ρ2 with
    | stuck => rw [e1] at h2; exact h2
    | exn x => rw [e1] at h2; intro cls dx H' Fz' o xr; exact h2 cls dx σ2 H' Fz' (o2.transL o k2) xr
    | ok z1 =>
      obtain ⟨b, ρ3⟩ := z1
      rw [e1, R.bind] at h2
      intro H3 Fz3 L3 o3 S3 k3 q3
      have o4 := o2.transL o3 k2
      have k4 : ∀ a ∈ L3, a ∈ L ∨ ¬ Trk H a := fun a z => (k3 a z).elim (k2 a) fun z => .inr fun t => z (o2.there a t)
      have p4 := p2.trans (q3.pins σ2)
      cases b with
      | false => exact h2 σ2 H3 Fz3 L3 o4 S3 k4 p4
      | true =>
        rw [if_pos rfl] at h2 ⊢
        refine ⟨fun σ' H' => ∃ Fz' ρ' L', Out Γ Fz H (· ∈ L) Fz' H' ∧ Stt Γ Fz' H' σ' ρ' L' ∧ (∀ a ∈ L', a ∈ L ∨ ¬ Trk H a) ∧ Pins ρ σ ρ' σ' ∧ SPost Γ W Fz H L ρ σ D (whileL ct s n ρ'), fun σ' H' z => ⟨n, Nat.lt_succ_self n, z⟩, Fz3, ρ3, L3, S3, ?_⟩
        have again : ∀ ρ5 (Q : Sg → Hp → Prop), SPost Γ W Fz H L ρ σ D (whileL ct s n ρ5) → (∀ σ' H', (∃ Fz' ρ' L', Out Γ Fz H (· ∈ L) Fz' H' ∧ Stt Γ Fz' H' σ' ρ' L' ∧ (∀ a ∈ L', a ∈ L ∨ ¬ Trk H a) ∧ Pins ρ σ ρ' σ' ∧ SPost Γ W Fz H L ρ σ D (whileL ct s n ρ')) → Q σ' H') → SOut Γ Fz3 H3 L3 ρ3 σ2 ρ5 Q :=
          fun ρ5 Q hh hq σ6 H6 Fz6 L6 o6 S6 k6 p6 => hq σ6 H6 ⟨Fz6, ρ5, L6, o4.transL o6 k4, S6, fun a z => (k6 a z).elim (k4 a) fun z => .inr fun t => z (o4.there a t), p4.trans p6, hh⟩
        cases e5 : s ρ3 with
        | stuck => rw [e5] at h2; exact h2
        | exn x => rw [e5] at h2; intro cls dx σ' H' Fz' o6 xr; exact h2 cls dx σ' H' Fz' (o4.transL o6 k4) xr
        | ok f =>
          rw [e5, R.bind] at h2
          cases f with
          | nx ρ5 => exact again ρ5 _ h2 fun σ' H' z => z
          | ct ρ5 => exact again ρ5 _ h2 fun σ' H' z => z
          | bk ρ5 => exact SOut.after (ρ2 := ρ5) (Q := D.nx) h2 o4 k4 p4
          | rt d ρ5 => exact SPost.after (D := D) (r := .ok (.rt d ρ5)) o4 k4 p4 h2
end
end DL

namespace DL
open PySem PySem.Spec L2

/-! ### what a def does, on data: the result, what its pinned parameters hold behind it -/
abbrev Gf := List D → R (D × List D)
def pick {α : Type} : List Bool → List α → List α
  | true :: mu, v :: vs => v :: pick mu vs
  | false :: mu, _ :: vs => pick mu vs
  | _, _ => []
def picks : List Bool → List Sl → List D
  | true :: mu, .val _ d :: ρ => d :: picks mu ρ
  | _ :: mu, _ :: ρ => picks mu ρ
  | _, _ => []
def spD (Γ : Gm) (mu : List Bool) (n : Nat) (G : Gf) : Sp := fun vs H Q E => vs.length = n ∧ ∃ Fz ds Ls, Reps Γ Fz none0 H vs ds Ls ∧ (∀ a ∈ Ls, ¬ Fz a) ∧ (∀ a, Fz a → Trk H a) ∧ LamX.Tabs Γ.T H ∧ match G ds with
  | .ok (d, ms) => ∀ v H' Fz' Ld Lm, Out Γ Fz H (· ∈ Ls) Fz' H' → Rep Γ Fz' none0 H' v d Ld → Reps Γ Fz' none0 H' (pick mu vs) ms Lm → (∀ a ∈ Ld, a ∉ Lm ∧ ¬ Fz' a) → (∀ a ∈ Lm, ¬ Fz' a) → (∀ a, a ∈ Lm ∨ a ∈ Ld → a ∈ Ls ∨ ¬ Trk H a) → Q v H'
  | .exn x => ∀ cls dx H' Fz', Out Γ Fz H (· ∈ Ls) Fz' H' → XRep Γ H' x cls dx → E cls dx H'
  | .stuck => False
/-- the def x of the module -/
def FnD (P : Program) (w : World) (K : PySem.W.Frag) (mg : Str → Option Value) (base : Heap) (Γ : Gm) (k : Nat) (x : Str) (mu : List Bool) (n : Nat) (G : Gf) : Prop :=
  ∃ f fd ps, FnOk P w K mg base (L2.CX P w) k f fd ps (spD Γ mu n G) ∧ mg x = some (.ref f) ∧ PySem.W.keepIn K (.ref f) = true ∧ Binds K fd ps []
theorem spD_len {Γ : Gm} {mu : List Bool} {n : Nat} {G : Gf} (vs : List V) (H : Hp) (Q : VK) (E : XK) (h : spD Γ mu n G vs H Q E) : vs.length = n := h.1

/-! ### a def's body -/
def sl0 : List Bool → List D → List Sl
  | m :: mu, d :: ds => .val m d :: sl0 mu ds
  | _, _ => []
def bodyG (mu : List Bool) (N : Nat) (b : Sm) : Gf := fun ds => if ds.length = mu.length then match b (sl0 mu ds ++ List.replicate N .emp) with
  | .ok (.rt d ρ') => .ok (d, picks mu ρ')
  | .ok (.nx ρ') => .ok (.non, picks mu ρ')
  | .exn x => .exn x
  | _ => .stuck else .stuck
section
variable {Γ : Gm}
theorem envs_emp {Fz : AS} {H : Hp} : ∀ n : Nat, Envs Γ Fz H (List.replicate n none) (List.replicate n .emp) []
  | 0 => .nil
  | n + 1 => .emp (envs_emp n)
theorem envs_start {Fz : AS} {H : Hp} {vs : List V} {ds : List D} {L : List Addr} (N : Nat) (r : Reps Γ Fz none0 H vs ds L) : ∀ {mu : List Bool}, ds.length = mu.length → Envs Γ Fz H (vs.map some ++ List.replicate N none) (sl0 mu ds ++ List.replicate N .emp) L := by
  intro mu hl
  induction ds generalizing vs L mu with
  | nil => cases r; cases mu with
    | nil => exact envs_emp N
    | cons _ _ => cases hl
  | cons d ds ih =>
    cases mu with
    | nil => cases hl
    | cons m mu =>
      cases r with
      | cons r t s e => exact .val r (ih t (Nat.succ.inj hl)) s e
theorem reps_pick {Fz : AS} {H : Hp} {σ : L2.St} {ρ : List Sl} {L : List Addr} (h : Envs Γ Fz H σ ρ L) : ∀ {mu : List Bool} {vs : List V}, vs.length = mu.length → (∀ (i : Nat), mu[i]? = some true → σ[i]? = (vs[i]?).map some ∧ ∃ d, ρ[i]? = some (Sl.val true d)) →
    ∃ Lm, Reps Γ Fz none0 H (pick mu vs) (picks mu ρ) Lm ∧ ∀ a ∈ Lm, a ∈ L := by
  induction h with
  | nil =>
    intro mu vs hl hp
    cases mu with
    | nil => exact ⟨[], by cases vs <;> exact .nil, fun _ z => z⟩
    | cons m mu =>
      cases vs with
      | nil => cases hl
      | cons v vs =>
        cases m with
        | true => obtain ⟨_, d, e⟩ := hp 0 rfl; simp at e
        | false =>
          have all : ∀ mu vs, (∀ (i : Nat), (false :: mu : List Bool)[i]? = some true → False) → pick mu (vs : List V) = [] := by
            intro mu
            induction mu with
            | nil => intro vs _; simp [pick]
            | cons m mu ih =>
              intro vs hh
              cases vs with
              | nil => cases m <;> simp [pick]
              | cons v vs =>
                cases m with
                | true => exact (hh 1 rfl).elim
                | false =>
                  unfold pick
                  refine ih vs fun i hi => ?_
                  cases i with
                  | zero => simp at hi
                  | succ i => exact hh (i + 2) (by simpa using hi)
          refine ⟨[], ?_, fun _ z => z⟩
          have e : pick (false :: mu) (v :: vs) = [] := by
            unfold pick
            exact all mu vs fun i hi => by obtain ⟨_, d, e⟩ := hp i hi; simp at e
          rw [e]
          have e2 : picks (false :: mu) [] = [] := by simp [picks]
          rw [e2]
          exact .nil
  | @emp x σ ρ L t ih =>
    intro mu vs hl hp
    cases mu with
    | nil => exact ⟨[], by cases vs <;> exact .nil, fun _ z => nomatch z⟩
    | cons m mu =>
      cases vs with
      | nil => cases hl
      | cons v vs =>
        cases m with
        | true => obtain ⟨_, d, e⟩ := hp 0 rfl; simp at e
        | false => exact ih (Nat.succ.inj hl) fun i hi => by simpa using hp (i + 1) (by simpa using hi)
  | @val p w d σ ρ L1 L2 L r t s e ih =>
    intro mu vs hl hp
    cases mu with
    | nil => exact ⟨[], by cases vs <;> exact .nil, fun _ z => nomatch z⟩
    | cons m mu =>
      cases vs with
      | nil => cases hl
      | cons v vs =>
        obtain ⟨Lm, q1, q2⟩ := ih (Nat.succ.inj hl) fun i hi => by simpa using hp (i + 1) (by simpa using hi)
        cases m with
        | true =>
          obtain ⟨e0, d', e1⟩ := hp 0 rfl
          simp at e0 e1
          subst e0
          exact ⟨L1 ++ Lm, .cons r q1 (fun a ha z => s a ha (q2 a z)) rfl, fun a z => by rw [e]; exact (List.mem_append.mp z).elim (fun z => List.mem_append_left _ z) fun z => List.mem_append_right _ (q2 a z)⟩
        | false => exact ⟨Lm, q1, fun a z => by rw [e]; exact List.mem_append_right _ (q2 a z)⟩
/-- the body's end is the promise -/
theorem body_ok {mu : List Bool} {N : Nat} {NN : List Str} {b : Sm} {vs : List V} {H : Hp} {Q : VK} {E : XK} (hN : NN.length = mu.length + N) (h : spD Γ mu mu.length (bodyG mu N b) vs H Q E) :
    tS Γ (fun cls d _ H => E cls d H) b { nx := fun _ H' => Q .non H', rt := Q } (L2.start NN vs) H := by
  obtain ⟨hl, Fz, ds, Ls, r, n, tk, tb, h⟩ := h
  unfold bodyG at h
  have hd : ds.length = mu.length := by rw [← r.len, hl]
  rw [if_pos hd] at h
  have e0 : L2.start NN vs = vs.map some ++ List.replicate N none := by unfold L2.start; rw [hN, hl, Nat.add_sub_cancel_left]
  rw [e0]
  have S0 : Stt Γ Fz H (vs.map some ++ List.replicate N none) (sl0 mu ds ++ List.replicate N .emp) Ls := ⟨envs_start N r hd, n, tk, tb⟩
  refine ⟨Fz, _, Ls, S0, ?_⟩
  -- the pinned parameters at the end
  have pins0 : ∀ (i : Nat), mu[i]? = some true → ∃ d, (sl0 mu ds ++ List.replicate N Sl.emp)[i]? = some (Sl.val true d) := by
    have : ∀ (mu : List Bool) (ds : List D) (i : Nat), ds.length = mu.length → mu[i]? = some true → ∃ d, (sl0 mu ds)[i]? = some (Sl.val true d) := by
      intro mu
      induction mu with
      | nil => intro ds i _ h; simp at h
      | cons m mu ih =>
        intro ds i hl h
        cases ds with
        | nil => cases hl
        | cons d ds =>
          cases i with
          | zero => simp at h; subst h; exact ⟨d, rfl⟩
          | succ i => obtain ⟨d', e⟩ := ih ds i (Nat.succ.inj hl) (by simpa using h); exact ⟨d', by simpa [sl0] using e⟩
    intro i hi
    obtain ⟨d, e⟩ := this mu ds i hd hi
    have hlt := (List.getElem?_eq_some_iff.mp e).1
    exact ⟨d, by rw [List.getElem?_append_left hlt]; exact e⟩
  have fin : ∀ {σ' : L2.St} {ρ' : List Sl} {H' : Hp} {Fz' : AS} {L' : List Addr}, Stt Γ Fz' H' σ' ρ' L' → Pins (sl0 mu ds ++ List.replicate N Sl.emp) (vs.map some ++ List.replicate N none) ρ' σ' → ∃ Lm, Reps Γ Fz' none0 H' (pick mu vs) (picks mu ρ') Lm ∧ ∀ a ∈ Lm, a ∈ L' := fun {σ' ρ' H' Fz' L'} S' p => by
    refine reps_pick S'.env hl fun i hi => ?_
    obtain ⟨d, e⟩ := pins0 i hi
    obtain ⟨e1, d', e2⟩ := p i d e
    refine ⟨?_, d', e2⟩
    have hlt : i < vs.length := by
      have := (List.getElem?_eq_some_iff.mp hi).1
      rw [hl]; exact this
    rw [e1, List.getElem?_append_left (by simpa using hlt), List.getElem?_map]
  cases e : b (sl0 mu ds ++ List.replicate N .emp) with
  | stuck => rw [e] at h; exact h
  | exn x => rw [e] at h; exact fun cls dx _ H' Fz' o xr => h cls dx H' Fz' o xr
  | ok f =>
    rw [e] at h
    cases f with
    | nx ρ' =>
      intro σ' H' Fz' L' o S' k p
      obtain ⟨Lm, q1, q2⟩ := fin S' p
      exact h .non H' Fz' [] Lm o .non q1 (fun a z => nomatch z) (fun a z => S'.dis a (q2 a z)) fun a z => z.elim (fun z => k a (q2 a z)) fun z => nomatch z
    | bk ρ' => exact h.elim
    | ct ρ' => exact h.elim
    | rt d ρ' =>
      intro v σ' H' Fz' L' Ld o S' r' n' k p
      obtain ⟨Lm, q1, q2⟩ := fin S' p
      exact h v H' Fz' Ld Lm o r' q1 (fun a z => ⟨fun u => (n' a z).1 (q2 a u), (n' a z).2⟩) (fun a z => S'.dis a (q2 a z)) fun a z => z.elim (fun z => k a (.inl (q2 a z))) fun z => k a (.inr z)

/-- the promise of another program that tells as much where it tells something -/
def Le (G G' : Gf) : Prop := ∀ ds, G ds = .stuck ∨ G ds = G' ds
theorem spD_le {mu : List Bool} {n : Nat} {G G' : Gf} (h : Le G G') (vs : List V) (H : Hp) (Q : VK) (E : XK) (z : spD Γ mu n G vs H Q E) : spD Γ mu n G' vs H Q E := by
  obtain ⟨hl, Fz, ds, Ls, r, n, tk, tb, z⟩ := z
  refine ⟨hl, Fz, ds, Ls, r, n, tk, tb, ?_⟩
  rcases h ds with e | e
  · rw [e] at z; exact z.elim
  · rw [← e]; exact z
theorem FnD.le {P : Program} {w : World} {K : PySem.W.Frag} {mg : Str → Option Value} {base : Heap} {k : Nat} {x : Str} {mu : List Bool} {n : Nat} {G G' : Gf} (F : FnD P w K mg base Γ k x mu n G') (h : Le G G') : FnD P w K mg base Γ k x mu n G := by
  obtain ⟨f, fd, ps, F, r⟩ := F
  exact ⟨f, fd, ps, F.imp fun vs H Q E z => spD_le h vs H Q E z, r⟩
theorem FnD.mono {P : Program} {w : World} {K : PySem.W.Frag} {mg : Str → Option Value} {base : Heap} {j k : Nat} {x : Str} {mu : List Bool} {n : Nat} {G : Gf} (F : FnD P w K mg base Γ j x mu n G) (h : j ≤ k) : FnD P w K mg base Γ k x mu n G := by
  obtain ⟨f, fd, ps, F, r⟩ := F
  exact ⟨f, fd, ps, F.mono h, r⟩
end

/-! ### calls -/
def toBorR : Fl → Fl
  | .own => .own
  | .kon => .kon
  | _ => .bor
def anyBor (ds : List D) : Bool := !(D.allL (· != .bor) ds)
def pCall (n : Nat) (G : Gf) (q : PA') : Pm := fun ρ => (q ρ).bind fun ds => if ds.length = n then match G (D.tagL toShr ds) with
  | .ok (d, []) => .ok (if anyBor ds then d.tag toBorR else d)
  | .exn x => .exn x
  | _ => .stuck else .stuck
def eCallN (n : Nat) (G : Gf) (q : EA') : Em := fun ρ => (q ρ).bind fun x => if x.1.length = n then match G (D.tagL toShr x.1) with
  | .ok (d, []) => .ok (d, x.2)
  | .exn x => .exn x
  | _ => .stuck else .stuck
def eCallM (n : Nat) (G : Gf) (i : Nat) (q : EA') : Em := fun ρ => match ρ[i]? with
  | some (.val _ _) => (q ρ).bind fun x => match x.2[i]? with
    | some (.val p d0) => if x.1.length + 1 = n then match G (d0 :: D.tagL toShr x.1) with
      | .ok (d, [m]) => .ok (d, x.2.set i (.val p m))
      | .exn x => .exn x
      | _ => .stuck else .stuck
    | _ => .stuck
  | _ => .stuck

section
variable {Γ : Gm} {W : WX} {X : Cx} {pos : Pos} {es : List Expr} {e : Expr} {q : PA'} {eq : EA'} {x : Str} {k n : Nat} {G : Gf} {mu : List Bool} {p : Pos}
theorem Rep.mono {Fz Bz Fz' Bz' : AS} {H : Hp} {v : V} {d : D} {L : List Addr} (r : Rep Γ Fz Bz H v d L) (h1 : ∀ a, Fz a → Fz' a) (h2 : ∀ a, Bz a → Bz' a) : Rep Γ Fz' Bz' H v d L :=
  r.keep (M := none0) .refl mutS0 (fun b h => ⟨id, h1 b h⟩) (fun b h => ⟨id, h2 b h⟩) fun _ _ z => z
theorem pick_none {α : Type} : ∀ (mu : List Bool) (vs : List α), mu.all (! ·) = true → pick mu vs = []
  | [], vs, _ => by cases vs <;> simp [pick]
  | true :: _, _, h => by simp at h
  | false :: mu, [], _ => by simp [pick]
  | false :: mu, v :: vs, h => by
    have h' : mu.all (! ·) = true := by simpa using h
    simpa [pick] using pick_none mu vs h'
theorem rp_call (F : FnD X.prog X.w X.K X.mg X.base Γ k x mu n G) (hr : Room k X.A) (tk : Takes X W) (hmu : mu.all (! ·) = true) (ha : PA X (e :: es) (tPA Γ W q)) (hg : Gl X x := by rfl) (hdb : (x == ("__debug__" : Str)) = false := by decide) (he : starEach (e :: es) X.env = (false, eval e X.env) :: starEach es X.env := by rfl) (hpl : (backTo pos (starEach es X.env)).any (·.1) = false := by rfl) :
    PE X (.Call (.Name x p) (e :: es) [] pos) (tP Γ W (pCall n G q)) := by
  obtain ⟨f, fd, ps, F, hm, hk, hb⟩ := F
  refine PEi (pe_callS F hr hg hm hk hb (fun σ => passAt tk σ) ha hdb he hpl) fun σ H Q h => ?_
  obtain ⟨Fz, ρ, L, S, h⟩ := h
  unfold pCall at h
  refine ⟨Fz, ρ, L, S, ?_⟩
  cases e1 : q ρ with
  | stuck => rw [e1] at h; exact h
  | exn x => rw [e1] at h; exact h
  | ok ds =>
    rw [e1, R.bind] at h
    intro vs H1 Fz1 Ld o1 r1 n1
    by_cases hln : ds.length = n
    case neg => rw [if_neg hln] at h; exact h.elim
    rw [if_pos hln] at h
    have S1 := S.grow o1
    by_cases c : anyBor ds = true
    · -- lent nodes among the arguments: all of the frame is shared for the call
      have ra : Reps Γ (fun a => Fz1 a ∨ a ∈ Ld ∨ a ∈ L) none0 H1 vs (D.tagL toShr ds) [] := by
        refine Reps.tagA rfl rfl (fun f hf => ⟨(by cases f <;> first | rfl | cases hf), fun a z => ?_⟩) r1 fun a ha => .inr (.inl ha)
        cases f with
        | own => cases hf
        | kon => cases hf
        | shr => exact .inl z
        | bor => exact z.elim (fun z => .inr (.inr z)) .inl
      refine ⟨by rw [r1.len, hln], _, _, [], ra, (fun a z => nomatch z), fun a z => ?_, o1.tabs, ?_⟩
      · rcases z with z | z | z
        · exact o1.trk a z
        · exact (r1.wr a z).trk
        · exact (S1.env.wr a z).trk
      · cases e2 : G (D.tagL toShr ds) with
        | stuck => rw [e2] at h; exact h
        | exn x =>
          rw [e2] at h
          intro cls dx H' Fz' o2 xr
          have o2' : Out Γ Fz1 H1 none0 (fun a => Fz' a ∧ a ∉ L ∧ a ∉ Ld) H' := ⟨o2.keep.mono (fun _ z => nomatch z), o2.there, fun a z => ⟨o2.up a (.inl z), fun u => S1.dis a u z, fun u => (n1 a u).2 z⟩, fun a z => by
            rcases o2.new a z.1 with u | u | u
            · rcases u with u | u | u
              · exact .inl u
              · exact absurd u z.2.2
              · exact absurd u z.2.1
            · cases u
            · exact .inr (.inr u), fun a z => o2.trk a z.1, o2.tabs⟩
          exact h cls dx H' _ (o1.trans0 o2') xr
        | ok rr =>
          obtain ⟨d, ms⟩ := rr
          rw [e2] at h
          cases ms with
          | cons _ _ => exact h.elim
          | nil =>
            dsimp only at h
            rw [if_pos c] at h
            intro v H' Fz' Ld' Lm o2 r2 rm n2 nm k2
            have o3 : Out Γ Fz H none0 (fun a => Fz' a ∧ a ∉ L) H' := by
              refine ⟨o1.keep.trans (o2.keep.mono fun _ z => nomatch z), fun a z => o2.there a (o1.there a z), fun a z => ⟨o2.up a (.inl (o1.up a z)), fun u => S.dis a u z⟩, fun a z => ?_, fun a z => o2.trk a z.1, o2.tabs⟩
              rcases o2.new a z.1 with u | u | u
              · rcases u with u | u | u
                · exact o1.new a u
                · exact .inr (.inr (n1 a u).1)
                · exact absurd u z.2
              · cases u
              · exact .inr (.inr fun t => u (o1.there a t))
            refine h v H' _ Ld' o3 (r2.tagB rfl rfl fun f hf => ?_) fun a ha => ⟨fun t => ?_, fun t => (n2 a ha).2 t.1⟩
            · cases f with
 | own => cases hf
 | kon => cases hf
              | shr => exact ⟨rfl, fun a z => by
                  by_cases u : a ∈ L
                  · exact .inl u
                  · exact .inr ⟨z, u⟩⟩
              | bor => exact ⟨rfl, fun a z => z.elim⟩
            · rcases k2 a (.inr ha) with u | u
              · cases u
              · exact u (o1.there a t)
    · -- none is lent
      have c' : D.allL (· != .bor) ds = true := by
        unfold anyBor at c
        simpa using c
      have r1' : Reps Γ Fz1 none0 H1 vs ds Ld := Reps.chg (p := (· != .bor)) (fun f hf hp a z => by
        cases f with
        | own => cases hf
        | kon => cases hf
        | shr => exact z
        | bor => exact absurd hp (by decide)) r1 c'
      have ra : Reps Γ (fun a => Fz1 a ∨ a ∈ Ld) none0 H1 vs (D.tagL toShr ds) [] := by
        refine Reps.tagA rfl rfl (fun f hf => ⟨(by cases f <;> first | rfl | cases hf), fun a z => ?_⟩) r1' fun a ha => .inr ha
        cases f with
        | own => cases hf
        | kon => cases hf
        | shr => exact .inl z
        | bor => exact z.elim
      refine ⟨by rw [r1.len, hln], _, _, [], ra, (fun a z => nomatch z), fun a z => ?_, o1.tabs, ?_⟩
      · rcases z with z | z
        · exact o1.trk a z
        · exact (r1.wr a z).trk
      · have o3 : ∀ {Fz' : AS} {H' : Hp}, Out Γ (fun a => Fz1 a ∨ a ∈ Ld) H1 (· ∈ ([] : List Addr)) Fz' H' → Out Γ Fz H none0 Fz' H' := fun {Fz' H'} o2 => by
          refine ⟨o1.keep.trans (o2.keep.mono fun _ z => nomatch z), fun a z => o2.there a (o1.there a z), fun a z => o2.up a (.inl (o1.up a z)), fun a z => ?_, o2.trk, o2.tabs⟩
          rcases o2.new a z with u | u | u
          · rcases u with u | u
            · exact o1.new a u
            · exact .inr (.inr (n1 a u).1)
          · cases u
          · exact .inr (.inr fun t => u (o1.there a t))
        cases e2 : G (D.tagL toShr ds) with
        | stuck => rw [e2] at h; exact h
        | exn x =>
          rw [e2] at h
          intro cls dx H' Fz' o2 xr
          exact h cls dx H' _ (o3 o2) xr
        | ok rr =>
          obtain ⟨d, ms⟩ := rr
          rw [e2] at h
          cases ms with
          | cons _ _ => exact h.elim
          | nil =>
            dsimp only at h
            rw [if_neg c] at h
            intro v H' Fz' Ld' Lm o2 r2 rm n2 nm k2
            refine h v H' _ Ld' (o3 o2) (r2.mono (fun _ z => z) fun _ z => z.elim) fun a ha => ⟨fun t => ?_, (n2 a ha).2⟩
            rcases k2 a (.inr ha) with u | u
            · cases u
            · exact u (o1.there a t)
end
end DL

namespace DL
open PySem PySem.Spec L2
section
variable {Γ : Gm} {W : WX} {X : Cx} {pos : Pos} {es : List Expr} {e : Expr} {eq : EA'} {x y : Str} {k n : Nat} {G : Gf} {mu : List Bool} {p py : Pos}
theorem sh_of {Fz : AS} {Ld : List Addr} : ∀ (f : Fl), f.sh = true → (toShr f).sh = true ∧ ∀ a, f.S Fz none0 a → (toShr f).S (fun a => Fz a ∨ a ∈ Ld) none0 a := fun f hf => ⟨(by cases f <;> first | rfl | cases hf), fun a z => by
  cases f with
  | own => cases hf
  | kon => cases hf
  | shr => exact .inl z
  | bor => exact z.elim⟩
theorem re_calln (F : FnD X.prog X.w X.K X.mg X.base Γ k x mu n G) (hr : Room k X.A) (tk : Takes X W) (hmu : mu.all (! ·) = true) (ha : PA X (e :: es) (tEA Γ W eq)) (hg : Gl X x := by rfl) (hdb : (x == ("__debug__" : Str)) = false := by decide) (he : starEach (e :: es) X.env = (false, eval e X.env) :: starEach es X.env := by rfl) (hpl : (backTo pos (starEach es X.env)).any (·.1) = false := by rfl) :
    PE X (.Call (.Name x p) (e :: es) [] pos) (tE Γ W (eCallN n G eq)) := by
  obtain ⟨f, fd, ps, F, hm, hk, hb⟩ := F
  refine PEi (pe_callS F hr hg hm hk hb (fun σ => passAt tk σ) ha hdb he hpl) fun σ H Q h => ?_
  obtain ⟨Fz, ρ, L, S, h⟩ := h
  unfold eCallN at h
  refine ⟨Fz, ρ, L, S, ?_⟩
  cases e1 : eq ρ with
  | stuck => rw [e1] at h; exact h
  | exn x => rw [e1] at h; exact h
  | ok z1 =>
    obtain ⟨ds, ρ1⟩ := z1
    rw [e1, R.bind] at h
    dsimp only at h
    intro vs H1 Fz1 L1 Ld o1 S1 r1 n1 k1 q1
    by_cases hln : ds.length = n
    case neg => rw [if_neg hln] at h; exact h.elim
    rw [if_pos hln] at h
    have ra : Reps Γ (fun a => Fz1 a ∨ a ∈ Ld) none0 H1 vs (D.tagL toShr ds) [] := Reps.tagA rfl rfl sh_of r1 fun a ha => .inr ha
    refine ⟨by rw [r1.len, hln], _, _, [], ra, (fun a z => nomatch z), fun a z => ?_, o1.tabs, ?_⟩
    · rcases z with z | z
      · exact o1.trk a z
      · exact (r1.wr a z).trk
    · -- the callee's end, seen from the frame
      have o3 : ∀ {Fz' : AS} {H' : Hp}, Out Γ (fun a => Fz1 a ∨ a ∈ Ld) H1 (· ∈ ([] : List Addr)) Fz' H' → Out Γ Fz H (· ∈ L) Fz' H' ∧ Stt Γ Fz' H' σ ρ1 L1 := fun {Fz' H'} o2 => by
        have nw : ∀ a, Fz' a → Fz1 a ∨ a ∈ Ld ∨ ¬ Trk H1 a := fun a z => by
          rcases o2.new a z with u | u | u
          · exact u.elim .inl fun u => .inr (.inl u)
          · cases u
          · exact .inr (.inr u)
        refine ⟨⟨o1.keep.trans (o2.keep.mono fun _ z => nomatch z), fun a z => o2.there a (o1.there a z), fun a z => o2.up a (.inl (o1.up a z)), fun a z => ?_, o2.trk, o2.tabs⟩, ⟨S1.env.keep (M := none0) (o2.keep.mono fun _ z => nomatch z) mutS0 (fun b z => ⟨id, o2.up b (.inl z)⟩) fun _ _ z => z, fun a ha z => ?_, o2.trk, o2.tabs⟩⟩
        · rcases nw a z with u | u | u
          · exact o1.new a u
          · exact .inr (k1 a (.inr u))
          · exact .inr (.inr fun t => u (o1.there a t))
        · rcases nw a z with u | u | u
          · exact S1.dis a ha u
          · exact (n1 a u).1 ha
          · exact u (S1.env.wr a ha).trk
      cases e2 : G (D.tagL toShr ds) with
      | stuck => rw [e2] at h; exact h
      | exn x =>
        rw [e2] at h
        intro cls dx H' Fz' o2 xr
        exact h cls dx H' _ (o3 o2).1 xr
      | ok rr =>
        obtain ⟨d, ms⟩ := rr
        rw [e2] at h
        cases ms with
        | cons _ _ => exact h.elim
        | nil =>
          dsimp only at h
          intro v H' Fz' Ld' Lm o2 r2 rm n2 nm k2
          have fresh : ∀ a ∈ Ld', ¬ Trk H1 a := fun a z => (k2 a (.inr z)).elim (fun z => nomatch z) id
          refine h v H' Fz' L1 Ld' (o3 o2).1 (o3 o2).2 r2 (fun a ha => ⟨fun z => fresh a ha (S1.env.wr a z).trk, (n2 a ha).2⟩) (fun a ha => ?_) q1
          rcases ha with ha | ha
          · exact k1 a (.inl ha)
          · exact .inr fun t => fresh a ha (o1.there a t)
/-- f(y, e, ..), f changes y's object -/
theorem re_callm {i : Nat} (F : FnD X.prog X.w X.K X.mg X.base Γ k x mu n G) (hr : Room k X.A) (tk : Takes X W) (hmu : ∃ mu', mu = true :: mu' ∧ mu'.all (! ·) = true) (ha : PA X es (tEA Γ W eq)) (hN : X.N[i]? = some y := by rfl) (hv : Vis X.env.scope y := by first | exact Or.inl rfl | exact Or.inr (Or.inl rfl) | exact Or.inr (Or.inr rfl))
    (hg : Gl X x := by rfl) (hdb : (x == ("__debug__" : Str)) = false := by decide) (hd : (y == ("__debug__" : Str)) = false := by decide) (hcd : (y == ("__classdict__" : Str)) = false := by decide)
    (he : starEach (.Name y py :: es) X.env = (false, eval (.Name y py) X.env) :: starEach es X.env := by rfl) (hpl : (backTo pos (starEach es X.env)).any (·.1) = false := by rfl) :
    PE X (.Call (.Name x p) (.Name y py :: es) [] pos) (tE Γ W (eCallM n G i eq)) := by
  obtain ⟨f, fd, ps, F, hm, hk, hb⟩ := F
  obtain ⟨mu', rfl, hmu⟩ := hmu
  refine PEi (pe_callS F hr hg hm hk hb (fun σ => passAt tk σ) (pa_cons (pe_var hN hv hd hcd) ha he) hdb he hpl) fun σ H Q h => ?_
  obtain ⟨Fz, ρ, L, S, h⟩ := h
  unfold eCallM at h
  cases es0 : ρ[i]? with
  | none => rw [es0] at h; exact h.elim
  | some sl0 =>
  cases sl0 with
  | emp => rw [es0] at h; exact h.elim
  | val pp0 dd0 =>
  rw [es0] at h
  dsimp only at h
  obtain ⟨v0, _, _, hv0, _⟩ := S.env.take es0
  refine ⟨v0, hv0, ?_⟩
  show tEA Γ W eq σ H fun vs H1 => spD Γ (true :: mu') n G (v0 :: vs) H1 Q (WE W σ)
  refine ⟨Fz, ρ, L, S, ?_⟩
  cases e1 : eq ρ with
  | stuck => rw [e1] at h; exact h
  | exn x => rw [e1] at h; exact h
  | ok z1 =>
    obtain ⟨ds, ρ1⟩ := z1
    rw [e1, R.bind] at h
    dsimp only at h
    intro vs H1 Fz1 L1 Ld o1 S1 r1 n1 k1 q1
    cases e0 : ρ1[i]? with
    | none => rw [e0] at h; exact h.elim
    | some sl =>
      cases sl with
      | emp => rw [e0] at h; exact h.elim
      | val pp d0 =>
        rw [e0] at h
        dsimp only at h
        by_cases hln : ds.length + 1 = n
        case neg => rw [if_neg hln] at h; exact h.elim
        rw [if_pos hln] at h
        obtain ⟨v, Li, Lr, h1, h2, h3, h4, h5⟩ := S1.env.take e0
        rw [hv0] at h1
        cases h1
        have nLi : ∀ a ∈ Li, a ∈ L1 := fun a z => (h3 a).mpr (.inl z)
        have nLr : ∀ a ∈ Lr, a ∈ L1 := fun a z => (h3 a).mpr (.inr z)
        have ra : Reps Γ (fun a => Fz1 a ∨ a ∈ Ld) none0 H1 vs (D.tagL toShr ds) [] := Reps.tagA rfl rfl sh_of r1 fun a ha => .inr ha
        refine ⟨by rw [List.length_cons, r1.len, hln], _, _, Li, .cons (h2.mono (fun a z => .inl z) fun _ z => z) ra (fun a _ z => nomatch z) (by simp), (fun a ha z => ?_), fun a z => ?_, o1.tabs, ?_⟩
        · rcases z with z | z
          · exact S1.dis a (nLi a ha) z
          · exact (n1 a z).1 (nLi a ha)
        · rcases z with z | z
          · exact o1.trk a z
          · exact (r1.wr a z).trk
        · have nw : ∀ {Fz' : AS} {H' : Hp}, Out Γ (fun a => Fz1 a ∨ a ∈ Ld) H1 (· ∈ Li) Fz' H' → ∀ a, Fz' a → Fz1 a ∨ a ∈ Ld ∨ a ∈ Li ∨ ¬ Trk H1 a := fun {Fz' H'} o2 a z => by
            rcases o2.new a z with u | u | u
            · exact u.elim .inl fun u => .inr (.inl u)
            · exact .inr (.inr (.inl u))
            · exact .inr (.inr (.inr u))
          have o3 : ∀ {Fz' : AS} {H' : Hp}, Out Γ (fun a => Fz1 a ∨ a ∈ Ld) H1 (· ∈ Li) Fz' H' → Out Γ Fz H (· ∈ L) Fz' H' ∧ Stt Γ Fz' H' σ (ρ1.set i .emp) Lr := fun {Fz' H'} o2 => by
            refine ⟨⟨fun b ob eb nb tb => o2.keep b ob (o1.keep b ob eb nb tb) (fun z => ?_) tb, fun a z => o2.there a (o1.there a z), fun a z => o2.up a (.inl (o1.up a z)), fun a z => ?_, o2.trk, o2.tabs⟩, ⟨h5.keep o2.keep (mutS_of h2.wr) (fun b z => ⟨fun u => S1.dis b (nLi b u) z, o2.up b (.inl z)⟩) fun a ha z => h4 a z ha, fun a ha z => ?_, o2.trk, o2.tabs⟩⟩
            · rcases k1 b (.inl (nLi b z)) with u | u
              · exact nb u
              · exact u ⟨ob, eb, tb⟩
            · rcases nw o2 a z with u | u | u | u
              · exact o1.new a u
              · exact .inr (k1 a (.inr u))
              · exact .inr (k1 a (.inl (nLi a u)))
              · exact .inr (.inr fun t => u (o1.there a t))
            · rcases nw o2 a z with u | u | u | u
              · exact S1.dis a (nLr a ha) u
              · exact (n1 a u).1 (nLr a ha)
              · exact h4 a u ha
              · exact u (S1.env.wr a (nLr a ha)).trk
          cases e2 : G (d0 :: D.tagL toShr ds) with
          | stuck => rw [e2] at h; exact h
          | exn x =>
            rw [e2] at h
            intro cls dx H' Fz' o2 xr
            exact h cls dx H' _ (o3 o2).1 xr
          | ok rr =>
            obtain ⟨d, ms⟩ := rr
            rw [e2] at h
            cases ms with
            | nil => exact h.elim
            | cons m0 ms =>
              cases ms with
              | cons _ _ => exact h.elim
              | nil =>
                dsimp only at h
                intro v H' Fz' Ld' Lm o2 r2 rm n2 nm k2
                have ep : pick (true :: mu') (v0 :: vs) = [v0] := by
                  show v0 :: pick mu' vs = [v0]
                  rw [pick_none mu' vs hmu]
                rw [ep] at rm
                obtain ⟨La, rm0, eLm⟩ : ∃ La, Rep Γ Fz' none0 H' v0 m0 La ∧ Lm = La := by
                  cases rm with
                  | cons r t s e => cases t; exact ⟨_, r, by simpa using e⟩
                subst eLm
                obtain ⟨o4, S4⟩ := o3 o2
                have fresh : ∀ a, a ∈ Lm ∨ a ∈ Ld' → a ∉ Lr := fun a z u => by
                  rcases k2 a z with w | w
                  · exact h4 a w u
                  · exact w (S1.env.wr a (nLr a u)).trk
                have il : i < ρ1.length := (List.getElem?_eq_some_iff.mp e0).1
                obtain ⟨L', e5, e6⟩ := S4.env.put (i := i) (v := v0) pp (by simp [il]) hv0 rm0 fun a ha => fresh a (.inl ha)
                rw [List.set_set] at e6
                refine h v H' Fz' L' Ld' o4 ⟨e6, fun a ha => ?_, o2.trk, o2.tabs⟩ r2 (fun a ha => ⟨fun z => ?_, (n2 a ha).2⟩) (fun a ha => ?_) fun j d' ej => ?_
                · rcases (e5 a).mp ha with z | z
                  · exact nm a z
                  · exact S4.dis a z
                · rcases (e5 a).mp z with z | z
                  · exact (n2 a ha).1 z
                  · exact fresh a (.inr ha) z
                · have back : a ∈ Li ∨ ¬ Trk H1 a → a ∈ L ∨ ¬ Trk H a := fun z => z.elim (fun z => k1 a (.inl (nLi a z))) fun z => .inr fun t => z (o1.there a t)
                  rcases ha with ha | ha
                  · rcases (e5 a).mp ha with z | z
                    · exact back (k2 a (.inl z))
                    · exact k1 a (.inl (nLr a z))
                  · exact back (k2 a (.inr ha))
                · obtain ⟨d2, e7⟩ := q1 j d' ej
                  by_cases ij : i = j
                  · subst ij
                    rw [e0] at e7
                    cases e7
                    exact ⟨m0, by rw [List.getElem?_set_self il]⟩
                  · exact ⟨d2, by rw [List.getElem?_set_ne ij]; exact e7⟩
end
end DL

namespace DL
open PySem PySem.Spec L2

/-! ### data that == reads -/
mutual
def D.py : D → PyData
  | .non => .none
  | .bl b => .bool b
  | .int i => .int i
  | .str x => .str x
  | .hole => .none
  | .tup xs => .tuple (D.pyL xs)
  | .lst _ xs => .list (D.pyL xs)
  | .dik _ _ _ => .dict []
  | .dit _ _ _ => .dict []
  | .obj _ _ _ _ => .dict []
def D.pyL : List D → List PyData
  | [] => []
  | x :: xs => D.py x :: D.pyL xs
end
mutual
/-- nested lists and tuples of scalars, n deep at most -/
def D.flat : Nat → D → Bool
  | _, .non => true
  | _, .bl _ => true
  | _, .int _ => true
  | _, .str _ => true
  | n + 1, .tup xs => D.flatL n xs
  | n + 1, .lst _ xs => D.flatL n xs
  | _, _ => false
def D.flatL : Nat → List D → Bool
  | _, [] => true
  | n, x :: xs => D.flat n x && D.flatL n xs
end
mutual
def deq : D → D → Bool
  | .non, .non => true
  | .bl a, .bl b => a == b
  | .bl a, .int j => (if a then 1 else 0) == j
  | .int i, .bl b => i == (if b then 1 else 0)
  | .int i, .int j => i == j
  | .str x, .str y => x == y
  | .lst _ xs, .lst _ ys => deqL xs ys
  | .tup xs, .tup ys => deqL xs ys
  | _, _ => false
def deqL : List D → List D → Bool
  | [], [] => true
  | x :: xs, y :: ys => deq x y && deqL xs ys
  | _, _ => false
end
mutual
theorem flat_plain : ∀ (n : Nat) (d : D), D.flat n d = true → d.py.plain = true ∧ d.py.depth ≤ n
  | _, .non, _ => ⟨rfl, Nat.zero_le _⟩
  | _, .bl _, _ => ⟨rfl, Nat.zero_le _⟩
  | _, .int _, _ => ⟨rfl, Nat.zero_le _⟩
  | _, .str _, _ => ⟨rfl, Nat.zero_le _⟩
  | n + 1, .tup xs, h => by
    have := flat_plainL n xs (by simpa [D.flat] using h)
    simp only [D.py, PyData.plain, PyData.depth]
    exact ⟨this.1, Nat.succ_le_succ this.2⟩
  | n + 1, .lst _ xs, h => by
    have := flat_plainL n xs (by simpa [D.flat] using h)
    simp only [D.py, PyData.plain, PyData.depth]
    exact ⟨this.1, Nat.succ_le_succ this.2⟩
  | 0, .tup _, h => by simp [D.flat] at h
  | 0, .lst _ _, h => by simp [D.flat] at h
  | n, .dik _ _ _, h => by cases n <;> simp [D.flat] at h
  | n, .dit _ _ _, h => by cases n <;> simp [D.flat] at h
  | n, .obj _ _ _ _, h => by cases n <;> simp [D.flat] at h
theorem flat_plainL : ∀ (n : Nat) (ds : List D), D.flatL n ds = true → PyData.plainAll (D.pyL ds) = true ∧ PyData.depthAll (D.pyL ds) ≤ n
  | _, [], _ => ⟨rfl, Nat.zero_le _⟩
  | n, x :: xs, h => by
    have h' : D.flat n x = true ∧ D.flatL n xs = true := by simpa [D.flatL] using h
    have h1 := flat_plain n x h'.1
    have h2 := flat_plainL n xs h'.2
    simp only [D.pyL, PyData.plainAll, PyData.depthAll]
    exact ⟨by rw [h1.1, h2.1]; rfl, Nat.max_le.mpr ⟨h1.2, h2.2⟩⟩
end
mutual
theorem deq_py : ∀ (n : Nat) (d e : D), D.flat n d = true → D.flat n e = true → PyData.eqv d.py e.py = deq d e
  | n, d, e, h1, h2 => by
    cases d <;> cases e <;> first
      | rfl
      | (cases n <;> simp [D.flat] at h1; done)
      | (cases n <;> simp [D.flat] at h2; done)
      | skip
    case tup.tup xs ys =>
      cases n with
      | zero => simp [D.flat] at h1
      | succ n => simpa [D.py, PyData.eqv, deq] using deq_pyL n xs ys (by simpa [D.flat] using h1) (by simpa [D.flat] using h2)
    case lst.lst f xs g ys =>
      cases n with
      | zero => simp [D.flat] at h1
      | succ n => simpa [D.py, PyData.eqv, deq] using deq_pyL n xs ys (by simpa [D.flat] using h1) (by simpa [D.flat] using h2)
  termination_by n d e => sizeOf d
theorem deq_pyL : ∀ (n : Nat) (ds es : List D), D.flatL n ds = true → D.flatL n es = true → PyData.eqvAll (D.pyL ds) (D.pyL es) = deqL ds es
  | _, [], [], _, _ => rfl
  | _, [], _ :: _, _, _ => rfl
  | _, _ :: _, [], _, _ => rfl
  | n, x :: xs, y :: ys, h1, h2 => by
    have h1' : D.flat n x = true ∧ D.flatL n xs = true := by simpa [D.flatL] using h1
    have h2' : D.flat n y = true ∧ D.flatL n ys = true := by simpa [D.flatL] using h2
    simp only [D.pyL, PyData.eqvAll, deqL]
    rw [deq_py n x y h1'.1 h2'.1, deq_pyL n xs ys h1'.2 h2'.2]
  termination_by n ds es => sizeOf ds
end

section
variable {Γ : Gm} {Fz Bz : AS} {H : Hp}
theorem KoL.sq {a : Addr} {xs : List V} (h : KoL Γ H a xs) : SqL Γ.K H a xs := by
  rcases h with h | h
  · exact .inl (.inr h)
  · exact .inr h
/-- a list is to be read -/
theorem Rep.lst_r {v : V} {f : Fl} {ds : List D} {L : List Addr} (r : Rep Γ Fz Bz H v (.lst f ds) L) : ∃ a vs La, v = .ref a ∧ SqL Γ.K H a vs ∧ Reps Γ Fz Bz H vs ds La ∧ (∀ x ∈ La, x ∈ L) := by
  cases r with
  | lstO h r n => exact ⟨_, _, _, rfl, .inl (.inl h), r, fun x hx => List.mem_cons_of_mem _ hx⟩
  | lstS hf h r => exact ⟨_, _, _, rfl, .inl (.inl h.1), r, fun x hx => hx⟩
  | lstK h r => exact ⟨_, _, _, rfl, h.sq, r, fun x hx => hx⟩
/-- .. tracked as such -/
theorem Rep.lst_t {v : V} {f : Fl} {ds : List D} {L : List Addr} (r : Rep Γ Fz Bz H v (.lst f ds) L) (hf : f ≠ .kon) : ∃ a vs La, v = .ref a ∧ H a = some (.lst vs) ∧ Reps Γ Fz Bz H vs ds La ∧ (∀ x ∈ La, x ∈ L) := by
  cases r with
  | lstO h r n => exact ⟨_, _, _, rfl, h, r, fun x hx => List.mem_cons_of_mem _ hx⟩
  | lstS hf h r => exact ⟨_, _, _, rfl, h.1, r, fun x hx => hx⟩
  | lstK h r => exact absurd rfl hf
theorem Rep.tup_r {v : V} {ds : List D} {L : List Addr} (r : Rep Γ Fz Bz H v (.tup ds) L) : ∃ a vs, v = .ref a ∧ SqT Γ.K H a vs ∧ Reps Γ Fz Bz H vs ds L := by
  cases r with
  | tup h r => exact ⟨_, _, rfl, h, r⟩
theorem Rep.int_v {v : V} {i : Int} {L : List Addr} (r : Rep Γ Fz Bz H v (.int i) L) : v = .int i ∧ L = [] := by cases r; exact ⟨rfl, rfl⟩
theorem Rep.str_v {v : V} {i : Str} {L : List Addr} (r : Rep Γ Fz Bz H v (.str i) L) : v = .str i ∧ L = [] := by cases r; exact ⟨rfl, rfl⟩
theorem Rep.bl_v {v : V} {i : Bool} {L : List Addr} (r : Rep Γ Fz Bz H v (.bl i) L) : v = .bl i ∧ L = [] := by cases r; exact ⟨rfl, rfl⟩
mutual
theorem Rep.dp : ∀ {v : V} {d : D} {L : List Addr} {n : Nat}, Rep Γ Fz Bz H v d L → D.flat n d = true → Dp Γ.K H v d.py
  | _, _, _, _, .non, _ => .non
  | _, _, _, _, .bl b, _ => .bl b
  | _, _, _, _, .int i, _ => .int i
  | _, _, _, _, .str x, _ => .str x
  | _, _, _, n, .tup h r, z => by
    cases n with
    | zero => simp [D.flat] at z
    | succ n => exact .tup h (Reps.dp r (by simpa [D.flat] using z))
  | _, _, _, n, .lstO h r _, z => by
    cases n with
    | zero => simp [D.flat] at z
    | succ n => exact .lst (.inl (.inl h)) (Reps.dp r (by simpa [D.flat] using z))
  | _, _, _, n, .lstS _ h r, z => by
    cases n with
    | zero => simp [D.flat] at z
    | succ n => exact .lst (.inl (.inl h.1)) (Reps.dp r (by simpa [D.flat] using z))
  | _, _, _, n, .lstK h r, z => by
    cases n with
    | zero => simp [D.flat] at z
    | succ n => exact .lst h.sq (Reps.dp r (by simpa [D.flat] using z))
  | _, _, _, n, .dikO .., z => by cases n <;> simp [D.flat] at z
  | _, _, _, n, .dikS .., z => by cases n <;> simp [D.flat] at z
  | _, _, _, n, .ditO .., z => by cases n <;> simp [D.flat] at z
  | _, _, _, n, .ditS .., z => by cases n <;> simp [D.flat] at z
  | _, _, _, n, .objO .., z => by cases n <;> simp [D.flat] at z
  | _, _, _, n, .objS .., z => by cases n <;> simp [D.flat] at z
theorem Reps.dp : ∀ {vs : List V} {ds : List D} {L : List Addr} {n : Nat}, Reps Γ Fz Bz H vs ds L → D.flatL n ds = true → DpAll Γ.K H vs (D.pyL ds)
  | _, _, _, _, .nil, _ => .nil
  | _, _, _, n, .cons (d := d) r t _ _, z => by
    have z' := (by simpa [D.flatL] using z : D.flat n d = true ∧ _)
    exact .cons (Rep.dp r z'.1) (Reps.dp t z'.2)
end
theorem Same.refl' {H : Hp} : Same H H := fun _ _ h => h
end

/-! ### arithmetic and comparisons of ints -/
def dI2 (C : Int → Int → Bool) (g : Int → Int → D) : D → D → Option D
  | .int i, .int j => if C i j then some (g i j) else none
  | _, _ => none
def scal0 : D → Option V
  | .non => some .non
  | .bl b => some (.bl b)
  | .int i => some (.int i)
  | .str x => some (.str x)
  | _ => none
theorem scal0_rep {Γ : Gm} {Fz Bz : AS} {H : Hp} {d : D} {v : V} (h : scal0 d = some v) : Rep Γ Fz Bz H v d [] := by
  cases d <;> first | (cases h; first | exact .non | exact .bl _ | exact .int _ | exact .str _) | cases h
section
variable {Γ : Gm} {X : Cx}
theorem op_i2 {f : Value → Value → Sem Value} {r : R2} {C : Int → Int → Bool} {g : Int → Int → D} {gv : Int → Int → V} (h : OpR X f r) (hr : ∀ i j H Q, C i j = true → Q (gv i j) H → r (.int i) (.int j) H Q) (hg : ∀ i j, scal0 (g i j) = some (gv i j)) : OpR X f (rD2 Γ (dI2 C g)) := by
  intro pins s σ H x y v u Q I rx ry q
  obtain ⟨Fz, Bz, d1, d2, L1, L2, r1, r2, s12, q⟩ := q
  cases d1 <;> first | exact q.elim | skip
  case int i =>
    cases d2 <;> first | exact q.elim | skip
    case int j =>
      have e1 := r1.int_v.1
      have e2 := r2.int_v.1
      subst e1 e2
      by_cases c : C i j = true
      · simp only [dI2, if_pos c] at q
        exact h pins s σ H _ _ v u Q I rx ry (hr i j H Q c (q _ H [] Same.refl' (scal0_rep (hg i j)) fun a z => nomatch z))
      · simp only [dI2, if_neg c] at q
def cT : Int → Int → Bool := fun _ _ => true
def cMul : Int → Int → Bool := fun i j => decide ((-18446744073709551616 < i ∧ i < 18446744073709551616) ∨ (-18446744073709551616 < j ∧ j < 18446744073709551616))
def cDivN : Int → Int → Bool := fun _ j => decide (0 < j ∧ j < 1073741824)
def cMod : Int → Int → Bool := fun _ j => decide (0 < j)
def cPow : Int → Int → Bool := fun i j => decide (0 ≤ j ∧ j ≤ 1000000 ∧ i.natAbs < 18446744073709551616)
def iAdd := dI2 cT fun i j => .int (i + j)
def iSub := dI2 cT fun i j => .int (i - j)
def iMul := dI2 cMul fun i j => .int (i * j)
def iDiv := dI2 cDivN fun i j => .int (i / j)
def iMod := dI2 cMod fun i j => .int (i % j)
def iPow := dI2 cPow fun i j => .int (i ^ j.toNat)
def iLt := dI2 cT fun i j => .bl (decide (i < j))
def iLe := dI2 cT fun i j => .bl (decide (i ≤ j))
def iGt := dI2 cT fun i j => .bl (decide (i > j))
def iGe := dI2 cT fun i j => .bl (decide (i ≥ j))
theorem ro_add : OpR X (binaryOp .Add) (rD2 Γ iAdd) := op_i2 (gv := fun i j => .int (i + j)) op_add (fun i j H Q _ q => ⟨i, j, rfl, rfl, q⟩) fun _ _ => rfl
theorem ro_sub : OpR X (binaryOp .Sub) (rD2 Γ iSub) := op_i2 (gv := fun i j => .int (i - j)) op_sub (fun i j H Q _ q => ⟨i, j, rfl, rfl, q⟩) fun _ _ => rfl
theorem ro_mul : OpR X (binaryOp .Mult) (rD2 Γ iMul) := op_i2 (gv := fun i j => .int (i * j)) op_mul (fun i j H Q c q => ⟨i, j, rfl, rfl, (by
  have := of_decide_eq_true c
  rcases this with z | z
  · exact .inl (by simpa using z)
  · exact .inr (by simpa using z)), q⟩) fun _ _ => rfl
theorem ro_div : OpR X (binaryOp .FloorDiv) (rD2 Γ iDiv) := op_i2 (gv := fun i j => .int (i / j)) op_fdiv (fun i j H Q c q => ⟨i, j, rfl, rfl, (of_decide_eq_true c : 0 < j ∧ j < 1073741824), q⟩) fun _ _ => rfl
theorem ro_mod : OpR X (binaryOp .Mod) (rD2 Γ iMod) := op_i2 (gv := fun i j => .int (i % j)) op_mod (fun i j H Q c q => ⟨i, j, rfl, rfl, of_decide_eq_true c, q⟩) fun _ _ => rfl
theorem ro_pow : OpR X (binaryOp .Pow) (rD2 Γ iPow) := op_i2 (gv := fun i j => .int (i ^ j.toNat)) op_pow (fun i j H Q c q => ⟨i, j, rfl, rfl, (by have := of_decide_eq_true c; exact ⟨this.1, this.2.1, by simpa using this.2.2⟩), q⟩) fun _ _ => rfl
end
end DL

namespace DL
open PySem PySem.Spec L2
section
variable {Γ : Gm} {X : Cx}
theorem ro_lt : OpR X (compareOp .Lt) (rD2 Γ iLt) := op_i2 (gv := fun i j => .bl (decide (i < j))) op_lt (fun i j H Q _ q => ⟨i, j, rfl, rfl, q⟩) fun _ _ => rfl
theorem ro_le : OpR X (compareOp .LtE) (rD2 Γ iLe) := op_i2 (gv := fun i j => .bl (decide (i ≤ j))) op_le (fun i j H Q _ q => ⟨i, j, rfl, rfl, q⟩) fun _ _ => rfl
theorem ro_gt : OpR X (compareOp .Gt) (rD2 Γ iGt) := op_i2 (gv := fun i j => .bl (decide (j < i))) op_gt (fun i j H Q _ q => ⟨i, j, rfl, rfl, q⟩) fun _ _ => rfl
theorem ro_ge : OpR X (compareOp .GtE) (rD2 Γ iGe) := op_i2 (gv := fun i j => .bl (decide (j ≤ i))) op_ge (fun i j H Q _ q => ⟨i, j, rfl, rfl, q⟩) fun _ _ => rfl

/-! ### two programs for one operation -/
def dOr (f g : D → D → Option D) : D → D → Option D := fun a b => match f a b with
  | some d => some d
  | none => g a b
theorem ro_or {F : Value → Value → Sem Value} {f g : D → D → Option D} (h1 : OpR X F (rD2 Γ f)) (h2 : OpR X F (rD2 Γ g)) : OpR X F (rD2 Γ (dOr f g)) := by
  intro pins s σ H x y v u Q I rx ry q
  obtain ⟨Fz, Bz, d1, d2, L1, L2, r1, r2, s12, q⟩ := q
  unfold dOr at q
  cases e : f d1 d2 with
  | some d =>
    rw [e] at q
    exact h1 pins s σ H x y v u Q I rx ry ⟨Fz, Bz, d1, d2, L1, L2, r1, r2, s12, by rw [e]; exact q⟩
  | none =>
    rw [e] at q
    exact h2 pins s σ H x y v u Q I rx ry ⟨Fz, Bz, d1, d2, L1, L2, r1, r2, s12, q⟩

/-! ### equality -/
def dEq : D → D → Option D := fun a b => if D.flat 40 a && D.flat 40 b then some (.bl (deq a b)) else none
def dNe : D → D → Option D := fun a b => if D.flat 40 a && D.flat 40 b then some (.bl (!deq a b)) else none
theorem ro_eq (hu : X.A.units + 64 < cLine) (hK : X.K = Γ.K) : OpR X (compareOp .Eq) (rD2 Γ dEq) := by
  intro pins s σ H x y v u Q I rx ry q
  obtain ⟨Fz, Bz, d1, d2, L1, L2, r1, r2, s12, q⟩ := q
  by_cases c : (D.flat 40 d1 && D.flat 40 d2) = true
  · simp only [dEq, if_pos c] at q
    obtain ⟨c1, c2⟩ := Bool.and_eq_true_iff.mp c
    obtain ⟨as, q1⟩ := Dp.reads I _ x v (by rw [hK]; exact r1.dp c1) rx
    obtain ⟨bs, q2⟩ := Dp.reads I _ y u (by rw [hK]; exact r2.dp c2) ry
    have p1 := flat_plain 40 d1 c1
    have p2 := flat_plain 40 d2 c2
    refine SeqAt.eq_plain q1 q2 p1.1 p2.1 (by have : min d1.py.depth d2.py.depth ≤ d1.py.depth := Nat.min_le_left _ _; have := p1.2; omega) ⟨.bl _, H, I, rfl, ?_⟩
    rw [deq_py 40 d1 d2 c1 c2]
    exact q _ H [] Same.refl' (.bl _) fun a z => nomatch z
  · simp only [dEq, if_neg c] at q
theorem ro_ne (hu : X.A.units + 64 < cLine) (hK : X.K = Γ.K) : OpR X (compareOp .NotEq) (rD2 Γ dNe) := by
  intro pins s σ H x y v u Q I rx ry q
  obtain ⟨Fz, Bz, d1, d2, L1, L2, r1, r2, s12, q⟩ := q
  by_cases c : (D.flat 40 d1 && D.flat 40 d2) = true
  · simp only [dNe, if_pos c] at q
    obtain ⟨c1, c2⟩ := Bool.and_eq_true_iff.mp c
    obtain ⟨as, q1⟩ := Dp.reads I _ x v (by rw [hK]; exact r1.dp c1) rx
    obtain ⟨bs, q2⟩ := Dp.reads I _ y u (by rw [hK]; exact r2.dp c2) ry
    have p1 := flat_plain 40 d1 c1
    have p2 := flat_plain 40 d2 c2
    refine SeqAt.ne_plain q1 q2 p1.1 p2.1 (by have : min d1.py.depth d2.py.depth ≤ d1.py.depth := Nat.min_le_left _ _; have := p1.2; omega) ⟨.bl _, H, I, rfl, ?_⟩
    rw [deq_py 40 d1 d2 c1 c2]
    exact q _ H [] Same.refl' (.bl _) fun a z => nomatch z
  · simp only [dNe, if_neg c] at q
theorem deq_any (n : Nat) (d : D) (hd : D.flat n d = true) : ∀ xs : List D, D.flatL n xs = true → ((D.pyL xs).any fun y => PyData.eqv y d.py) = xs.any fun y => deq y d
  | [], _ => rfl
  | x :: xs, h => by
    have h' : D.flat n x = true ∧ D.flatL n xs = true := by simpa [D.flatL] using h
    simp only [D.pyL, List.any_cons, deq_py n x d h'.1 hd, deq_any n d hd xs h'.2]
def dIn : D → D → Option D := fun a c => match c with
  | .lst _ xs => if D.flat 40 a && D.flatL 40 xs then some (.bl (xs.any fun y => deq y a)) else none
  | .tup xs => if D.flat 40 a && D.flatL 40 xs then some (.bl (xs.any fun y => deq y a)) else none
  | _ => none
def dNin : D → D → Option D := fun a c => match c with
  | .lst _ xs => if D.flat 40 a && D.flatL 40 xs then some (.bl (!xs.any fun y => deq y a)) else none
  | .tup xs => if D.flat 40 a && D.flatL 40 xs then some (.bl (!xs.any fun y => deq y a)) else none
  | _ => none
theorem ro_in (hu : X.A.units + 64 < cLine) (hK : X.K = Γ.K) : OpR X (compareOp .In) (rD2 Γ dIn) := by
  intro pins s σ H x y v u Q I rx ry q
  obtain ⟨Fz, Bz, d1, d2, L1, L2, r1, r2, s12, q⟩ := q
  cases d2 <;> first | exact q.elim | skip
  all_goals
    rename_i xs
    by_cases c : (D.flat 40 d1 && D.flatL 40 xs) = true
    case neg => simp only [dIn, if_neg c] at q
    simp only [dIn, if_pos c] at q
    obtain ⟨c1, c2⟩ := Bool.and_eq_true_iff.mp c
    obtain ⟨as, q1⟩ := Dp.reads I _ x v (by rw [hK]; exact r1.dp c1) rx
    have p1 := flat_plain 40 d1 c1
    have p2 := flat_plainL 40 xs c2
    have room : X.A.units + 1 + min (PyData.depthAll (D.pyL xs)) d1.py.depth < cLine := by have : min (PyData.depthAll (D.pyL xs)) d1.py.depth ≤ d1.py.depth := Nat.min_le_right _ _; have := p1.2; omega
  · obtain ⟨bs, q2⟩ := Dp.reads I _ y u (by rw [hK]; exact r2.dp (n := 41) (by simpa [D.flat] using c2)) ry
    refine SeqAt.in_tuple_data q2 q1 p2.1 p1.1 room ⟨.bl _, H, I, rfl, ?_⟩
    rw [deq_any 40 d1 c1 xs c2]
    exact q _ H [] Same.refl' (.bl _) fun a z => nomatch z
  · obtain ⟨bs, q2⟩ := Dp.reads I _ y u (by rw [hK]; exact r2.dp (n := 41) (by simpa [D.flat] using c2)) ry
    refine SeqAt.in_list_data q2 q1 p2.1 p1.1 room ⟨.bl _, H, I, rfl, ?_⟩
    rw [deq_any 40 d1 c1 xs c2]
    exact q _ H [] Same.refl' (.bl _) fun a z => nomatch z
theorem ro_nin (hu : X.A.units + 64 < cLine) (hK : X.K = Γ.K) : OpR X (compareOp .NotIn) (rD2 Γ dNin) := by
  intro pins s σ H x y v u Q I rx ry q
  obtain ⟨Fz, Bz, d1, d2, L1, L2, r1, r2, s12, q⟩ := q
  cases d2 <;> first | exact q.elim | skip
  all_goals
    rename_i xs
    by_cases c : (D.flat 40 d1 && D.flatL 40 xs) = true
    case neg => simp only [dNin, if_neg c] at q
    simp only [dNin, if_pos c] at q
    obtain ⟨c1, c2⟩ := Bool.and_eq_true_iff.mp c
    obtain ⟨as, q1⟩ := Dp.reads I _ x v (by rw [hK]; exact r1.dp c1) rx
    have p1 := flat_plain 40 d1 c1
    have p2 := flat_plainL 40 xs c2
    have room : X.A.units + 1 + min (PyData.depthAll (D.pyL xs)) d1.py.depth < cLine := by have : min (PyData.depthAll (D.pyL xs)) d1.py.depth ≤ d1.py.depth := Nat.min_le_right _ _; have := p1.2; omega
  · obtain ⟨bs, q2⟩ := Dp.reads I _ y u (by rw [hK]; exact r2.dp (n := 41) (by simpa [D.flat] using c2)) ry
    refine SeqAt.notIn_tuple_data q2 q1 p2.1 p1.1 room ⟨.bl _, H, I, rfl, ?_⟩
    rw [deq_any 40 d1 c1 xs c2]
    exact q _ H [] Same.refl' (.bl _) fun a z => nomatch z
  · obtain ⟨bs, q2⟩ := Dp.reads I _ y u (by rw [hK]; exact r2.dp (n := 41) (by simpa [D.flat] using c2)) ry
    refine SeqAt.notIn_list_data q2 q1 p2.1 p1.1 room ⟨.bl _, H, I, rfl, ?_⟩
    rw [deq_any 40 d1 c1 xs c2]
    exact q _ H [] Same.refl' (.bl _) fun a z => nomatch z

/-! ### is None -/
def dIsN : D → D → Option D := fun a b => match a, b with
  | .non, .non => some (.bl true)
  | .hole, .non => none
  | _, .non => some (.bl false)
  | _, _ => none
def dNotN : D → D → Option D := fun a b => match a, b with
  | .non, .non => some (.bl false)
  | .hole, .non => none
  | _, .non => some (.bl true)
  | _, _ => none
theorem Rep.non_iff {Fz Bz : AS} {H : Hp} {v : V} {d : D} {L : List Addr} (r : Rep Γ Fz Bz H v d L) (hh : d ≠ .hole) : v = .non ↔ d = .non := by
  cases r <;> first | (exact absurd rfl hh) | simp
theorem ro_isN : OpR X (compareOp .Is) (rD2 Γ dIsN) := by
  intro pins s σ H x y v u Q I rx ry q
  obtain ⟨Fz, Bz, d1, d2, L1, L2, r1, r2, s12, q⟩ := q
  cases d2 <;> first | (cases d1 <;> exact q.elim) | skip
  have ey : y = .non := (r2.non_iff D.noConfusion).mpr rfl
  refine op_isN pins s σ H x y v u Q I rx ry ⟨ey, ?_⟩
  cases d1 with
  | non =>
    have ex : x = .non := (r1.non_iff D.noConfusion).mpr rfl
    subst ex
    exact q _ H [] Same.refl' (.bl _) fun a z => nomatch z
  | hole => exact q.elim
  | _ =>
    have ex : x ≠ .non := fun z => by have := (r1.non_iff D.noConfusion).mp z; cases this
    rw [decide_eq_false ex]
    exact q _ H [] Same.refl' (.bl _) fun a z => nomatch z
theorem ro_notN : OpR X (compareOp .IsNot) (rD2 Γ dNotN) := by
  intro pins s σ H x y v u Q I rx ry q
  obtain ⟨Fz, Bz, d1, d2, L1, L2, r1, r2, s12, q⟩ := q
  cases d2 <;> first | (cases d1 <;> exact q.elim) | skip
  have ey : y = .non := (r2.non_iff D.noConfusion).mpr rfl
  refine op_notN pins s σ H x y v u Q I rx ry ⟨ey, ?_⟩
  cases d1 with
  | non =>
    have ex : x = .non := (r1.non_iff D.noConfusion).mpr rfl
    subst ex
    exact q _ H [] Same.refl' (.bl _) fun a z => nomatch z
  | hole => exact q.elim
  | _ =>
    have ex : x ≠ .non := fun z => by have := (r1.non_iff D.noConfusion).mp z; cases this
    rw [decide_eq_false ex]
    exact q _ H [] Same.refl' (.bl _) fun a z => nomatch z

/-! ### items -/
def dIx : D → D → Option D := fun a i => match a, i with
  | .lst _ xs, .int i => atI xs i
  | .tup xs, .int i => atI xs i
  | _, _ => none
theorem Reps.get {Fz Bz : AS} {H : Hp} : ∀ {vs : List V} {ds : List D} {L : List Addr}, Reps Γ Fz Bz H vs ds L → ∀ {j : Nat} {d : D}, ds[j]? = some d → ∃ v Lj, vs[j]? = some v ∧ Rep Γ Fz Bz H v d Lj ∧ ∀ a ∈ Lj, a ∈ L
  | _, _, _, .nil, j, d, e => by simp at e
  | _, _, _, .cons r t s el, 0, d, e => by
    simp at e
    subst e
    exact ⟨_, _, by simp, r, fun a z => el ▸ List.mem_append_left _ z⟩
  | _, _, _, .cons r t s el, j + 1, d, e => by
    obtain ⟨v, Lj, h1, h2, h3⟩ := Reps.get t (j := j) (by simpa using e)
    exact ⟨v, Lj, by simpa using h1, h2, fun a z => el ▸ List.mem_append_right _ (h3 a z)⟩
theorem Reps.at {Fz Bz : AS} {H : Hp} {vs : List V} {ds : List D} {L : List Addr} {i : Int} {d : D} (r : Reps Γ Fz Bz H vs ds L) (e : atI ds i = some d) : ∃ v Lj, atI vs i = some v ∧ Rep Γ Fz Bz H v d Lj ∧ ∀ a ∈ Lj, a ∈ L := by
  unfold atI at e ⊢
  rw [r.len]
  cases e1 : ixN ds.length i with
  | none => rw [e1] at e; cases e
  | some j => rw [e1] at e; exact r.get (show ds[j]? = some d from e)
theorem ro_ix (hK : X.K = Γ.K) : IxR X (rD2 Γ dIx) := by
  intro value slice pins s σ H x y v u Q I rx ry q hs
  obtain ⟨Fz, Bz, d1, d2, L1, L2, r1, r2, s12, q⟩ := q
  cases d2 <;> first | (cases d1 <;> exact q.elim) | skip
  rename_i i
  have ey := r2.int_v.1
  subst ey
  cases d1 <;> first | exact q.elim | skip
  case tup xs =>
    obtain ⟨a, vs, rfl, h1, h2⟩ := r1.tup_r
    have q' : match atI xs i with | some d => _ | none => False := q
    cases e : atI xs i with
    | none => rw [e] at q'; exact q'.elim
    | some d =>
      rw [e] at q'
      obtain ⟨w, Lj, e1, e2, e3⟩ := h2.at e
      exact ix_tup value slice pins s σ H _ _ v u Q I rx ry ⟨a, vs, i, w, rfl, rfl, by rw [hK]; exact h1, e1, q' w H Lj Same.refl' e2 fun b z => .inl (e3 b z)⟩ hs
  case lst f xs =>
    obtain ⟨a, vs, La, rfl, h1, h2, h3⟩ := r1.lst_r
    have q' : match atI xs i with | some d => _ | none => False := q
    cases e : atI xs i with
    | none => rw [e] at q'; exact q'.elim
    | some d =>
      rw [e] at q'
      obtain ⟨w, Lj, e1, e2, e3⟩ := h2.at e
      exact ix_list value slice pins s σ H _ _ v u Q I rx ry ⟨a, vs, i, w, rfl, rfl, by rw [hK]; exact h1, e1, q' w H Lj Same.refl' e2 fun b z => .inl (h3 b (e3 b z))⟩ hs

/-! ### new lists and tuples -/
theorem Reps.upd {Fz Bz : AS} {H : Hp} {vs : List V} {ds : List D} {L : List Addr} {p : Addr} {o : HO} (r : Reps Γ Fz Bz H vs ds L) (hp : H p = none) : Reps Γ Fz Bz (upd H p o) vs ds L :=
  r.keep (M := none0) (fun b u e _ _ => same_upd hp b u e) mutS0 (fun _ z => ⟨id, z⟩) (fun _ z => ⟨id, z⟩) fun _ _ z => z
theorem Reps.newL {Fz Bz : AS} {H : Hp} {vs : List V} {ds : List D} {L : List Addr} {p : Addr} (r : Reps Γ Fz Bz H vs ds L) (hp : H p = none) : Rep Γ Fz Bz (L2.upd H p (.lst vs)) (.ref p) (.lst .own ds) (p :: L) :=
  .lstO upd_same (r.upd hp) fun z => by obtain ⟨o, e, _⟩ := r.wr p z; rw [hp] at e; cases e
theorem Reps.newT {Fz Bz : AS} {H : Hp} {vs : List V} {ds : List D} {L : List Addr} {p : Addr} (r : Reps Γ Fz Bz H vs ds L) (hp : H p = none) : Rep Γ Fz Bz (L2.upd H p (.tup vs)) (.ref p) (.tup ds) L :=
  .tup (.inl (.inl upd_same)) (r.upd hp)
theorem new_mem {H : Hp} {p : Addr} {L L1 : List Addr} (hp : H p = none) (h : ∀ a ∈ L, a ∈ L1) : ∀ a ∈ p :: L, a ∈ L1 ∨ H a = none := fun a z => (List.mem_cons.mp z).elim (fun z => .inr (z ▸ hp)) fun z => .inl (h a z)
end
end DL

namespace DL
open PySem PySem.Spec L2
section
variable {Γ : Gm} {W : WX} {X : Cx} {q : PA'} {eq : EA'} {p : Pm} {m : Em} {pos : Pos} {es : List Expr}
theorem tPA_mono {σ : L2.St} {H : Hp} {K K' : List V → Hp → Prop} (h : tPA Γ W q σ H K) (i : ∀ vs H, K vs H → K' vs H) : tPA Γ W q σ H K' := by
  obtain ⟨Fz, ρ, L, S, h⟩ := h
  refine ⟨Fz, ρ, L, S, ?_⟩
  cases e : q ρ with
  | stuck => rw [e] at h; exact h
  | exn x => rw [e] at h; exact h
  | ok ds => rw [e] at h; exact fun vs H' Fz' Ld o r n => i _ _ (h vs H' Fz' Ld o r n)
theorem tEA_mono {σ : L2.St} {H : Hp} {K K' : List V → Hp → Prop} (h : tEA Γ W eq σ H K) (i : ∀ vs H, K vs H → K' vs H) : tEA Γ W eq σ H K' := by
  obtain ⟨Fz, ρ, L, S, h⟩ := h
  refine ⟨Fz, ρ, L, S, ?_⟩
  cases e : eq ρ with
  | stuck => rw [e] at h; exact h
  | exn x => rw [e] at h; exact h
  | ok ds => rw [e] at h; exact fun vs H' Fz' L' Ld o s r n k q => i _ _ (h vs H' Fz' L' Ld o s r n k q)
theorem tP_mono {σ : L2.St} {H : Hp} {K K' : VK} (h : tP Γ W p σ H K) (i : ∀ vs H, K vs H → K' vs H) : tP Γ W p σ H K' := by
  obtain ⟨Fz, ρ, L, S, h⟩ := h
  refine ⟨Fz, ρ, L, S, ?_⟩
  cases e : p ρ with
  | stuck => rw [e] at h; exact h
  | exn x => rw [e] at h; exact h
  | ok ds => rw [e] at h; exact fun vs H' Fz' Ld o r n => i _ _ (h vs H' Fz' Ld o r n)
theorem tE_mono {σ : L2.St} {H : Hp} {K K' : VK} (h : tE Γ W m σ H K) (i : ∀ vs H, K vs H → K' vs H) : tE Γ W m σ H K' := by
  obtain ⟨Fz, ρ, L, S, h⟩ := h
  refine ⟨Fz, ρ, L, S, ?_⟩
  cases e : m ρ with
  | stuck => rw [e] at h; exact h
  | exn x => rw [e] at h; exact h
  | ok ds => rw [e] at h; exact fun vs H' Fz' L' Ld o s r n k q => i _ _ (h vs H' Fz' L' Ld o s r n k q)

/-! ### displays -/
def fTup : List D → Option D := fun ds => if ds.length ≤ 1000 then some (.tup ds) else none
def fLst : List D → Option D := fun ds => if ds.length ≤ 1000 then some (.lst .own ds) else none
theorem few {n : Nat} (h : n ≤ 1000) : n ≤ sizeLine := by rw [PySem.sizeLine_eq]; omega
theorem fTup_ok {vs : List V} {H : Hp} {Q : VK} (h : rDN Γ fTup vs H Q) : vs.length ≤ sizeLine ∧ ∀ p, H p = none → Q (.ref p) (upd H p (.tup vs)) := by
  obtain ⟨Fz, Bz, ds, L1, r, h⟩ := h
  by_cases c : ds.length ≤ 1000
  · simp only [fTup, if_pos c] at h
    exact ⟨by rw [r.len]; exact few c, fun p hp => h _ _ L1 (same_upd hp) (r.newT hp) fun a z => .inl z⟩
  · simp only [fTup, if_neg c] at h
theorem fLst_ok {vs : List V} {H : Hp} {Q : VK} (h : rDN Γ fLst vs H Q) : vs.length ≤ sizeLine ∧ ∀ p, H p = none → Q (.ref p) (upd H p (.lst vs)) := by
  obtain ⟨Fz, Bz, ds, L1, r, h⟩ := h
  by_cases c : ds.length ≤ 1000
  · simp only [fLst, if_pos c] at h
    exact ⟨by rw [r.len]; exact few c, fun p hp => h _ _ (p :: L1) (same_upd hp) (r.newL hp) (new_mem hp fun a z => z)⟩
  · simp only [fLst, if_neg c] at h
theorem rp_tup {x1} (h : PA X es (tPA Γ W q)) : PE X (.Tuple es x1 pos) (tP Γ W (pOpN fTup q)) := PEi (pe_tup h) fun _ _ _ h => tPA_mono (imp_opN h) fun _ _ => fTup_ok
theorem rp_lst (h : PA X es (tPA Γ W q)) : PE X (.List es pos) (tP Γ W (pOpN fLst q)) := PEi (pe_lst h) fun _ _ _ h => tPA_mono (imp_opN h) fun _ _ => fLst_ok
theorem re_tup {x1} (h : PA X es (tEA Γ W eq)) : PE X (.Tuple es x1 pos) (tE Γ W (eOpN fTup eq)) := PEi (pe_tup h) fun _ _ _ h => tEA_mono (imp_eopN h) fun _ _ => fTup_ok
theorem re_lst (h : PA X es (tEA Γ W eq)) : PE X (.List es pos) (tE Γ W (eOpN fLst eq)) := PEi (pe_lst h) fun _ _ _ h => tEA_mono (imp_eopN h) fun _ _ => fLst_ok
end

section
variable {Γ : Gm} {X : Cx}
/-! ### + and * of lists, + of tuples -/
def lCat : D → D → Option D := fun a b => match a, b with
  | .lst f xs, .lst g ys => if f ≠ .kon ∧ g ≠ .kon ∧ xs.length + ys.length ≤ 16777216 then some (.lst .own (xs ++ ys)) else none
  | _, _ => none
theorem Reps.app {Fz Bz : AS} {H : Hp} : ∀ {vs ws : List V} {ds es : List D} {L1 L2 : List Addr}, Reps Γ Fz Bz H vs ds L1 → Reps Γ Fz Bz H ws es L2 → (∀ a ∈ L1, a ∉ L2) → Reps Γ Fz Bz H (vs ++ ws) (ds ++ es) (L1 ++ L2)
  | _, _, _, _, _, _, .nil, t, _ => t
  | _, _, _, _, _, _, .cons r t s e, u, h => by
    subst e
    exact .cons r (Reps.app t u fun a z => h a (List.mem_append_right _ z)) (fun a z y => (List.mem_append.mp y).elim (s a z) (h a (List.mem_append_left _ z))) (by simp)
theorem ro_cat : OpR X (binaryOp .Add) (rD2 Γ lCat) := by
  intro pins s σ H x y v u Q I rx ry q
  obtain ⟨Fz, Bz, d1, d2, L1, L2, r1, r2, s12, q⟩ := q
  cases d1 <;> first | exact q.elim | skip
  rename_i f xs
  cases d2 <;> first | exact q.elim | skip
  rename_i g ys
  by_cases c : f ≠ .kon ∧ g ≠ .kon ∧ xs.length + ys.length ≤ 16777216
  case neg => simp only [lCat, if_neg c] at q
  simp only [lCat, if_pos c] at q
  obtain ⟨a, vs, La, rfl, h1, h2, h3⟩ := r1.lst_t c.1
  obtain ⟨b, ws, Lb, rfl, k1, k2, k3⟩ := r2.lst_t c.2.1
  refine op_cat pins s σ H _ _ v u Q I rx ry ⟨a, b, vs, ws, rfl, rfl, h1, k1, by rw [h2.len, k2.len, PySem.sizeLine_eq]; exact c.2.2, fun p hp => ?_⟩
  refine q _ _ (p :: (La ++ Lb)) (same_upd hp) ((Reps.app h2 k2 fun a z y => s12 a (h3 a z) (k3 a y)).newL hp) fun a z => ?_
  rcases new_mem (L1 := La ++ Lb) hp (fun a z => z) a z with z | z
  · exact (List.mem_append.mp z).elim (fun z => .inl (h3 a z)) fun z => .inr (.inl (k3 a z))
  · exact .inr (.inr z)
instance (xs : List D) : Decidable (xs = []) := by cases xs with
  | nil => exact .isTrue rfl
  | cons _ _ => exact .isFalse (fun z => by cases z)
def tCat : D → D → Option D := fun a b => match a, b with
  | .tup xs, .tup ys => if xs ≠ [] ∧ xs.length + ys.length ≤ 16777216 then some (.tup (xs ++ ys)) else none
  | _, _ => none
theorem Reps.nil_iff {Fz Bz : AS} {H : Hp} {vs : List V} {ds : List D} {L : List Addr} (r : Reps Γ Fz Bz H vs ds L) : vs = [] ↔ ds = [] := by
  cases r <;> simp
theorem ro_catT (hK : X.K = Γ.K) : OpR X (binaryOp .Add) (rD2 Γ tCat) := by
  intro pins s σ H x y v u Q I rx ry q
  obtain ⟨Fz, Bz, d1, d2, L1, L2, r1, r2, s12, q⟩ := q
  cases d1 <;> first | exact q.elim | skip
  rename_i xs
  cases d2 <;> first | exact q.elim | skip
  rename_i ys
  by_cases c : xs ≠ [] ∧ xs.length + ys.length ≤ 16777216
  case neg => simp only [tCat, if_neg c] at q
  simp only [tCat, if_pos c] at q
  obtain ⟨a, vs, rfl, h1, h2⟩ := r1.tup_r
  obtain ⟨b, ws, rfl, k1, k2⟩ := r2.tup_r
  have hlen : vs.length + ws.length ≤ sizeLine := by rw [h2.len, k2.len, PySem.sizeLine_eq]; exact c.2
  refine op_catT pins s σ H _ _ v u Q I rx ry ⟨a, b, vs, ws, rfl, rfl, by rw [hK]; exact h1, by rw [hK]; exact k1, fun z => c.1 (h2.nil_iff.mp z), hlen, fun z => ?_, fun z p hp => ?_⟩
  · have ez := k2.nil_iff.mp z
    subst ez
    refine q _ H L1 Same.refl' ?_ fun a z => .inl z
    rw [List.append_nil]
    exact .tup h1 h2
  · refine q _ _ (L1 ++ L2) (same_upd hp) ((Reps.app h2 k2 s12).newT hp) fun a z => ?_
    exact (List.mem_append.mp z).elim .inl fun z => .inr (.inl z)
/-- items that may be doubled: nothing is owned -/
def noOwn (ds : List D) : Bool := D.allL (· != .own) ds
mutual
theorem Rep.noown {Fz Bz : AS} {H : Hp} : ∀ {v : V} {d : D} {L : List Addr}, Rep Γ Fz Bz H v d L → d.all (· != .own) = true → L = []
  | _, _, _, .non, _ => rfl
  | _, _, _, .bl _, _ => rfl
  | _, _, _, .int _, _ => rfl
  | _, _, _, .str _, _ => rfl
  | _, _, _, .hole _, _ => rfl
  | _, _, _, .tup h r, z => Reps.noown r (by unfold D.all at z; exact z)
  | _, _, _, .lstO h r n, z => by unfold D.all at z; simp at z
  | _, _, _, .lstS hf h r, z => rfl
  | _, _, _, .lstK h r, z => rfl
  | _, _, _, .dikO .., z => by unfold D.all at z; simp at z
  | _, _, _, .dikS .., z => rfl
  | _, _, _, .ditO .., z => by unfold D.all at z; simp at z
  | _, _, _, .ditS .., z => rfl
  | _, _, _, .objO .., z => by unfold D.all at z; simp at z
  | _, _, _, .objS .., z => rfl
theorem Reps.noown {Fz Bz : AS} {H : Hp} : ∀ {vs : List V} {ds : List D} {L : List Addr}, Reps Γ Fz Bz H vs ds L → D.allL (· != .own) ds = true → L = []
  | _, _, _, .nil, _ => rfl
  | _, _, _, .cons r t s e, z => by
    unfold D.allL at z
    have z' := Bool.and_eq_true_iff.mp z
    rw [e, Rep.noown r z'.1, Reps.noown t z'.2]
    rfl
end
theorem Reps.rep {Fz Bz : AS} {H : Hp} {vs : List V} {ds : List D} (r : Reps Γ Fz Bz H vs ds []) : ∀ n : Nat, Reps Γ Fz Bz H (List.replicate n vs).flatten (List.replicate n ds).flatten []
  | 0 => .nil
  | n + 1 => by
    rw [List.replicate_succ, List.replicate_succ, List.flatten_cons, List.flatten_cons]
    exact Reps.app r (Reps.rep r n) fun a z => nomatch z
def lRep : D → D → Option D := fun a b => match a, b with
  | .lst f xs, .int k => if f ≠ .kon ∧ noOwn xs = true ∧ -9223372036854775808 ≤ k ∧ k < 9223372036854775808 ∧ xs.length * k.toNat ≤ 16777216 then some (.lst .own (List.replicate k.toNat xs).flatten) else none
  | _, _ => none
theorem ro_rep : OpR X (binaryOp .Mult) (rD2 Γ lRep) := by
  intro pins s σ H x y v u Q I rx ry q
  obtain ⟨Fz, Bz, d1, d2, L1, L2, r1, r2, s12, q⟩ := q
  cases d1 <;> first | exact q.elim | skip
  rename_i f xs
  cases d2 <;> first | exact q.elim | skip
  rename_i k
  have ey := r2.int_v.1
  subst ey
  by_cases c : f ≠ .kon ∧ noOwn xs = true ∧ -9223372036854775808 ≤ k ∧ k < 9223372036854775808 ∧ xs.length * k.toNat ≤ 16777216
  case neg => simp only [lRep, if_neg c] at q
  simp only [lRep, if_pos c] at q
  obtain ⟨a, vs, La, rfl, h1, h2, h3⟩ := r1.lst_t c.1
  have e := h2.noown c.2.1
  subst e
  refine op_rep pins s σ H _ _ v u Q I rx ry ⟨a, k, vs, rfl, rfl, h1, by omega, by omega, by rw [h2.len, PySem.sizeLine_eq]; exact c.2.2.2.2, fun p hp => ?_⟩
  exact q _ _ [p] (same_upd hp) ((h2.rep _).newL hp) fun a z => by
    rcases List.mem_cons.mp z with z | z
    · exact .inr (.inr (z ▸ hp))
    · cases z
/-! ### built-in calls -/
def dOrN (f g : List D → Option D) : List D → Option D := fun ds => match f ds with
  | some d => some d
  | none => g ds
theorem rc_or {F : Value} {f g : List D → Option D} (h1 : CallR X F (rDN Γ f)) (h2 : CallR X F (rDN Γ g)) : CallR X F (rDN Γ (dOrN f g)) := by
  intro pins s σ H xs us Q I rx q
  obtain ⟨Fz, Bz, ds, L1, r1, q⟩ := q
  unfold dOrN at q
  cases e : f ds with
  | some d => rw [e] at q; exact h1 pins s σ H xs us Q I rx ⟨Fz, Bz, ds, L1, r1, by rw [e]; exact q⟩
  | none => rw [e] at q; exact h2 pins s σ H xs us Q I rx ⟨Fz, Bz, ds, L1, r1, q⟩
theorem Reps.one {Fz Bz : AS} {H : Hp} {vs : List V} {d : D} {L : List Addr} (r : Reps Γ Fz Bz H vs [d] L) : ∃ v, vs = [v] ∧ Rep Γ Fz Bz H v d L := by
  cases r with
  | cons r t s e => cases t; exact ⟨_, rfl, by rw [e, List.append_nil]; exact r⟩
theorem Reps.two {Fz Bz : AS} {H : Hp} {vs : List V} {d e : D} {L : List Addr} (r : Reps Γ Fz Bz H vs [d, e] L) : ∃ v w L1 L2, vs = [v, w] ∧ Rep Γ Fz Bz H v d L1 ∧ Rep Γ Fz Bz H w e L2 ∧ L = L1 ++ L2 ∧ ∀ a ∈ L1, a ∉ L2 := by
  cases r with
  | cons r t s e =>
    obtain ⟨w, e2, r2⟩ := t.one
    exact ⟨_, w, _, _, by rw [e2], r, r2, e, s⟩
def fLen : List D → Option D
  | [.lst _ xs] => some (.int xs.length)
  | [.tup xs] => some (.int xs.length)
  | [.str z] => if z.length ≤ 16777216 then some (.int z.length) else none
  | _ => none
theorem rc_len (hK : X.K = Γ.K) : CallR X (.builtin "len") (rDN Γ fLen) := by
  intro pins s σ H xs us Q I rx q
  obtain ⟨Fz, Bz, ds, L1, r1, q⟩ := q
  have one : ∃ d, ds = [d] := by
    match ds, q with
    | [d], _ => exact ⟨d, rfl⟩
    | a :: _ :: _, q => cases a <;> exact (show False from q).elim
  obtain ⟨d, rfl⟩ := one
  obtain ⟨v, rfl, r⟩ := r1.one
  cases d <;> first | exact q.elim | skip
  case str z =>
    obtain ⟨rfl, rfl⟩ := r.str_v
    by_cases c : z.length ≤ 16777216
    · simp only [fLen, if_pos c] at q
      exact call_len pins s σ H _ us Q I rx ⟨_, z.length, rfl, ⟨by rw [PySem.sizeLine_eq]; exact c, rfl⟩, q _ H [] Same.refl' (.int _) fun a z => nomatch z⟩
    · simp only [fLen, if_neg c] at q
  case tup ys =>
    obtain ⟨a, vs, rfl, h1, h2⟩ := r.tup_r
    exact call_len pins s σ H _ us Q I rx ⟨_, ys.length, rfl, .inr ⟨vs, by rw [hK]; exact h1, h2.len.symm⟩, q _ H [] Same.refl' (.int _) fun a z => nomatch z⟩
  case lst f ys =>
    obtain ⟨a, vs, La, rfl, h1, h2, h3⟩ := r.lst_r
    exact call_len pins s σ H _ us Q I rx ⟨_, ys.length, rfl, .inl ⟨vs, by rw [hK]; exact h1, h2.len.symm⟩, q _ H [] Same.refl' (.int _) fun a z => nomatch z⟩
def fAbs : List D → Option D
  | [.int i] => some (.int (if i < 0 then -i else i))
  | _ => none
theorem rc_abs : CallR X (.builtin "abs") (rDN Γ fAbs) := by
  intro pins s σ H xs us Q I rx q
  obtain ⟨Fz, Bz, ds, L1, r1, q⟩ := q
  match ds, r1, q with
  | [.int i], r1, q =>
    obtain ⟨v, rfl, r⟩ := r1.one
    obtain ⟨rfl, rfl⟩ := r.int_v
    exact call_abs pins s σ H _ us Q I rx ⟨i, rfl, q _ H [] Same.refl' (.int _) fun a z => nomatch z⟩
def fMax2 : List D → Option D
  | [.int i, .int j] => some (.int (if j > i then j else i))
  | _ => none
def fMin2 : List D → Option D
  | [.int i, .int j] => some (.int (if j < i then j else i))
  | _ => none
theorem rc_max2 (hc : X.calm = true) : CallR X (.builtin "max") (rDN Γ fMax2) := by
  intro pins s σ H xs us Q I rx q
  obtain ⟨Fz, Bz, ds, L1, r1, q⟩ := q
  match ds, r1, q with
  | [.int i, .int j], r1, q =>
    obtain ⟨v, w, _, _, rfl, r, r', _, _⟩ := r1.two
    obtain ⟨rfl, rfl⟩ := r.int_v
    obtain ⟨rfl, rfl⟩ := r'.int_v
    exact call_max2 hc pins s σ H _ us Q I rx ⟨i, j, rfl, q _ H [] Same.refl' (.int _) fun a z => nomatch z⟩
theorem rc_min2 (hc : X.calm = true) : CallR X (.builtin "min") (rDN Γ fMin2) := by
  intro pins s σ H xs us Q I rx q
  obtain ⟨Fz, Bz, ds, L1, r1, q⟩ := q
  match ds, r1, q with
  | [.int i, .int j], r1, q =>
    obtain ⟨v, w, _, _, rfl, r, r', _, _⟩ := r1.two
    obtain ⟨rfl, rfl⟩ := r.int_v
    obtain ⟨rfl, rfl⟩ := r'.int_v
    exact call_min2 hc pins s σ H _ us Q I rx ⟨i, j, rfl, q _ H [] Same.refl' (.int _) fun a z => nomatch z⟩
def fInt : List D → Option D
  | [.int i] => some (.int i)
  | [.bl b] => some (.int (if b then 1 else 0))
  | _ => none
theorem rc_int : CallR X (.type "int") (rDN Γ fInt) := by
  intro pins s σ H xs us Q I rx q
  obtain ⟨Fz, Bz, ds, L1, r1, q⟩ := q
  match ds, r1, q with
  | [.int i], r1, q =>
    obtain ⟨v, rfl, r⟩ := r1.one
    obtain ⟨rfl, rfl⟩ := r.int_v
    exact call_int1 pins s σ H _ us Q I rx (.inl ⟨i, rfl, q _ H [] Same.refl' (.int _) fun a z => nomatch z⟩)
  | [.bl i], r1, q =>
    obtain ⟨v, rfl, r⟩ := r1.one
    obtain ⟨rfl, rfl⟩ := r.bl_v
    exact call_int1 pins s σ H _ us Q I rx (.inr ⟨i, rfl, q _ H [] Same.refl' (.int _) fun a z => nomatch z⟩)
  | a :: _ :: _, _, q => cases a <;> exact (show False from q).elim
/-- the dints, the dbools of a list -/
def dints : List D → Option (List Int)
  | [] => some []
  | .int i :: ds => (dints ds).map (i :: ·)
  | _ => none
def dbools : List D → Option (List Bool)
  | [] => some []
  | .bl i :: ds => (dbools ds).map (i :: ·)
  | _ => none
theorem ints_map : ∀ xs : List Int, dints (xs.map .int) = some xs
  | [] => rfl
  | x :: xs => by simp [dints, ints_map xs]
theorem bools_map : ∀ xs : List Bool, dbools (xs.map .bl) = some xs
  | [] => rfl
  | x :: xs => by simp [dbools, bools_map xs]
theorem ints_of : ∀ {ds : List D} {ns : List Int}, dints ds = some ns → ds = ns.map .int
  | [], ns, h => by cases h; rfl
  | d :: ds, ns, h => by
    cases d <;> first | (cases h; done) | skip
    simp only [dints, Option.map_eq_some_iff] at h
    obtain ⟨ms, h1, rfl⟩ := h
    rw [ints_of h1]
    rfl
theorem bools_of : ∀ {ds : List D} {ns : List Bool}, dbools ds = some ns → ds = ns.map .bl
  | [], ns, h => by cases h; rfl
  | d :: ds, ns, h => by
    cases d <;> first | (cases h; done) | skip
    simp only [dbools, Option.map_eq_some_iff] at h
    obtain ⟨ms, h1, rfl⟩ := h
    rw [bools_of h1]
    rfl
theorem Reps.dints {Fz Bz : AS} {H : Hp} : ∀ {ns : List Int} {vs : List V} {L : List Addr}, Reps Γ Fz Bz H vs (ns.map .int) L → vs = ns.map V.int
  | [], _, _, h => by cases h; rfl
  | n :: ns, _, _, h => by
    cases h with
    | cons r t s e => rw [r.int_v.1, Reps.dints t]; rfl
theorem Reps.dbools {Fz Bz : AS} {H : Hp} : ∀ {ns : List Bool} {vs : List V} {L : List Addr}, Reps Γ Fz Bz H vs (ns.map .bl) L → vs = ns.map V.bl
  | [], _, _, h => by cases h; rfl
  | n :: ns, _, _, h => by
    cases h with
    | cons r t s e => rw [r.bl_v.1, Reps.dbools t]; rfl
theorem reps_ints {Fz Bz : AS} {H : Hp} : ∀ ns : List Int, Reps Γ Fz Bz H (ns.map V.int) (ns.map .int) []
  | [] => .nil
  | n :: ns => .cons (L1 := []) (L2 := []) (.int n) (reps_ints ns) (fun a z => nomatch z) rfl
def fSum : List D → Option D
  | [.lst _ xs] => (dints xs).map fun ns => .int ns.sum
  | _ => none
def fAll : List D → Option D
  | [.lst _ xs] => (dbools xs).map fun ns => .bl (ns.all id)
  | _ => none
def fAny : List D → Option D
  | [.lst _ xs] => (dbools xs).map fun ns => .bl (ns.any id)
  | _ => none
/-- the dints in order -/
def isort (ns : List Int) : List Int := ns.mergeSort fun a b => decide (a ≤ b)
def fSorted : List D → Option D
  | [.lst _ xs] => (dints xs).map fun ns => .lst .own ((isort ns).map .int)
  | _ => none
/-- the greatest, the least of a list that is not empty -/
def imax : List Int → Int
  | [] => 0
  | x :: xs => xs.foldl max x
def imin : List Int → Int
  | [] => 0
  | x :: xs => xs.foldl min x
def fMax : List D → Option D
  | [.lst _ xs] => (dints xs).bind fun ns => if ns = [] then none else some (.int (imax ns))
  | _ => none
def fMin : List D → Option D
  | [.lst _ xs] => (dints xs).bind fun ns => if ns = [] then none else some (.int (imin ns))
  | _ => none
theorem lst_call {F : Value} {f : List D → Option D} {r : List V → Hp → VK → Prop} (h : CallR X F r) (hf : ∀ ds, f ds ≠ none → ∃ g xs, ds = [.lst g xs])
    (hr : ∀ (Fz Bz : AS) (g : Fl) (xs : List D) (a : Addr) (vs : List V) (L : List Addr) (H : Hp) (Q : VK) (d : D), f [.lst g xs] = some d → SqL Γ.K H a vs → Reps Γ Fz Bz H vs xs L → (∀ z H' Ld, Same H H' → Rep Γ Fz Bz H' z d Ld → (∀ a ∈ Ld, a ∈ L ∨ H a = none) → Q z H') → r [.ref a] H Q) : CallR X F (rDN Γ f) := by
  intro pins s σ H xs us Q I rx q
  obtain ⟨Fz, Bz, ds, L1, r1, q⟩ := q
  cases e : f ds with
  | none => rw [e] at q; exact q.elim
  | some d =>
    rw [e] at q
    obtain ⟨g, ys, rfl⟩ := hf ds (by rw [e]; intro z; cases z)
    obtain ⟨v, rfl, rr⟩ := r1.one
    obtain ⟨a, vs, La, rfl, h1, h2, h3⟩ := rr.lst_r
    exact h pins s σ H _ us Q I rx (hr Fz Bz g ys a vs La H Q d e h1 h2 fun z H' Ld sm rz n => q z H' Ld sm rz fun b hb => (n b hb).imp (h3 b) id)
theorem one_lst {f : List D → Option D} (h : ∀ ds, (∀ g xs, ds ≠ [.lst g xs]) → f ds = none) : ∀ ds, f ds ≠ none → ∃ g xs, ds = [.lst g xs] := fun ds hd => by
  match ds with
  | [.lst g xs] => exact ⟨g, xs, rfl⟩
  | [] => exact absurd (h [] (fun _ _ z => by cases z)) hd
  | [.non] => exact absurd (h _ (fun _ _ z => by cases z)) hd
  | [.bl _] => exact absurd (h _ (fun _ _ z => by cases z)) hd
  | [.int _] => exact absurd (h _ (fun _ _ z => by cases z)) hd
  | [.str _] => exact absurd (h _ (fun _ _ z => by cases z)) hd
  | [.hole] => exact absurd (h _ (fun _ _ z => by cases z)) hd
  | [.tup _] => exact absurd (h _ (fun _ _ z => by cases z)) hd
  | [.dik _ _ _] => exact absurd (h _ (fun _ _ z => by cases z)) hd
  | [.dit _ _ _] => exact absurd (h _ (fun _ _ z => by cases z)) hd
  | [.obj _ _ _ _] => exact absurd (h _ (fun _ _ z => by cases z)) hd
  | _ :: _ :: _ => exact absurd (h _ (fun _ _ z => by cases z)) hd
theorem fSum_one : ∀ ds, fSum ds ≠ none → ∃ g xs, ds = [.lst g xs] := one_lst fun ds h => by unfold fSum; split <;> first | rfl | exact absurd rfl (h _ _)
theorem fAll_one : ∀ ds, fAll ds ≠ none → ∃ g xs, ds = [.lst g xs] := one_lst fun ds h => by unfold fAll; split <;> first | rfl | exact absurd rfl (h _ _)
theorem fAny_one : ∀ ds, fAny ds ≠ none → ∃ g xs, ds = [.lst g xs] := one_lst fun ds h => by unfold fAny; split <;> first | rfl | exact absurd rfl (h _ _)
theorem fSorted_one : ∀ ds, fSorted ds ≠ none → ∃ g xs, ds = [.lst g xs] := one_lst fun ds h => by unfold fSorted; split <;> first | rfl | exact absurd rfl (h _ _)
theorem fMax_one : ∀ ds, fMax ds ≠ none → ∃ g xs, ds = [.lst g xs] := one_lst fun ds h => by unfold fMax; split <;> first | rfl | exact absurd rfl (h _ _)
theorem fMin_one : ∀ ds, fMin ds ≠ none → ∃ g xs, ds = [.lst g xs] := one_lst fun ds h => by unfold fMin; split <;> first | rfl | exact absurd rfl (h _ _)
theorem rc_sum (hc : X.calm = true) (hK : X.K = Γ.K) : CallR X (.builtin "sum") (rDN Γ fSum) := lst_call (cr_sum hc) fSum_one fun Fz Bz g xs a vs L H Q d e h1 h2 q => by
  simp only [fSum, Option.map_eq_some_iff] at e
  obtain ⟨ns, e1, rfl⟩ := e
  have e2 := ints_of e1
  subst e2
  have e3 := h2.dints
  subst e3
  exact ⟨a, ns, rfl, by rw [hK]; exact h1, q _ H [] Same.refl' (.int _) fun a z => nomatch z⟩
theorem rc_all (hc : X.calm = true) (hK : X.K = Γ.K) : CallR X (.builtin "all") (rDN Γ fAll) := lst_call (cr_all hc) fAll_one fun Fz Bz g xs a vs L H Q d e h1 h2 q => by
  simp only [fAll, Option.map_eq_some_iff] at e
  obtain ⟨ns, e1, rfl⟩ := e
  have e2 := bools_of e1
  subst e2
  have e3 := h2.dbools
  subst e3
  exact ⟨a, ns, rfl, by rw [hK]; exact h1, q _ H [] Same.refl' (.bl _) fun a z => nomatch z⟩
theorem rc_any (hc : X.calm = true) (hK : X.K = Γ.K) : CallR X (.builtin "any") (rDN Γ fAny) := lst_call (cr_any hc) fAny_one fun Fz Bz g xs a vs L H Q d e h1 h2 q => by
  simp only [fAny, Option.map_eq_some_iff] at e
  obtain ⟨ns, e1, rfl⟩ := e
  have e2 := bools_of e1
  subst e2
  have e3 := h2.dbools
  subst e3
  exact ⟨a, ns, rfl, by rw [hK]; exact h1, q _ H [] Same.refl' (.bl _) fun a z => nomatch z⟩
theorem isort_perm (ns : List Int) : (isort ns).Perm ns := List.mergeSort_perm ns _
theorem isort_pw (ns : List Int) : (isort ns).Pairwise (· ≤ ·) := by
  have := List.pairwise_mergeSort (le := fun (a b : Int) => decide (a ≤ b)) (fun a b c h1 h2 => by simp at *; omega) (fun a b => by simp; omega) ns
  exact this.imp fun h => by simpa using h
theorem rc_sorted (hK : X.K = Γ.K) : CallR X (.builtin "sorted") (rDN Γ fSorted) := lst_call cr_sortedI fSorted_one fun Fz Bz g xs a vs L H Q d e h1 h2 q => by
  simp only [fSorted, Option.map_eq_some_iff] at e
  obtain ⟨ns, e1, rfl⟩ := e
  have e2 := ints_of e1
  subst e2
  have e3 := h2.dints
  subst e3
  refine ⟨a, ns, rfl, by rw [hK]; exact h1, fun ns' p hp hs hn => ?_⟩
  have e4 : ns' = isort ns := PySem.W.ksm_same (hp.trans (isort_perm ns).symm) hs (isort_pw ns)
  subst e4
  exact q _ _ [p] (same_upd hn) ((reps_ints _).newL hn) (new_mem hn fun a z => nomatch z)
theorem foldl_max_mem : ∀ (xs : List Int) (x : Int), xs.foldl max x ∈ x :: xs ∧ ∀ y ∈ x :: xs, y ≤ xs.foldl max x
  | [], x => ⟨List.mem_cons_self, fun y h => by simp at h; subst h; exact Int.le_refl _⟩
  | z :: xs, x => by
    have ih := foldl_max_mem xs (max x z)
    have e : (z :: xs).foldl max x = xs.foldl max (max x z) := rfl
    rw [e]
    refine ⟨?_, fun y hy => ?_⟩
    · rcases List.mem_cons.mp ih.1 with h | h
      · rw [h]
        by_cases c : x ≤ z
        · rw [Int.max_eq_right c]; simp
        · rw [Int.max_eq_left (by omega)]; simp
      · simp [h]
    · have h0 := ih.2 (max x z) List.mem_cons_self
      rcases List.mem_cons.mp hy with h | h
      · subst h; exact Int.le_trans (Int.le_max_left _ _) h0
      · rcases List.mem_cons.mp h with h | h
        · subst h; exact Int.le_trans (Int.le_max_right _ _) h0
        · exact ih.2 y (List.mem_cons_of_mem _ h)
theorem foldl_min_mem : ∀ (xs : List Int) (x : Int), xs.foldl min x ∈ x :: xs ∧ ∀ y ∈ x :: xs, xs.foldl min x ≤ y
  | [], x => ⟨List.mem_cons_self, fun y h => by simp at h; subst h; exact Int.le_refl _⟩
  | z :: xs, x => by
    have ih := foldl_min_mem xs (min x z)
    have e : (z :: xs).foldl min x = xs.foldl min (min x z) := rfl
    rw [e]
    refine ⟨?_, fun y hy => ?_⟩
    · rcases List.mem_cons.mp ih.1 with h | h
      · rw [h]
        by_cases c : x ≤ z
        · rw [Int.min_eq_left c]; simp
        · rw [Int.min_eq_right (by omega)]; simp
      · simp [h]
    · have h0 := ih.2 (min x z) List.mem_cons_self
      rcases List.mem_cons.mp hy with h | h
      · subst h; exact Int.le_trans h0 (Int.min_le_left _ _)
      · rcases List.mem_cons.mp h with h | h
        · subst h; exact Int.le_trans h0 (Int.min_le_right _ _)
        · exact ih.2 y (List.mem_cons_of_mem _ h)
theorem imax_mem {ns : List Int} (h : ns ≠ []) : imax ns ∈ ns ∧ ∀ y ∈ ns, y ≤ imax ns := by
  cases ns with
  | nil => exact absurd rfl h
  | cons x xs => exact foldl_max_mem xs x
theorem imin_mem {ns : List Int} (h : ns ≠ []) : imin ns ∈ ns ∧ ∀ y ∈ ns, imin ns ≤ y := by
  cases ns with
  | nil => exact absurd rfl h
  | cons x xs => exact foldl_min_mem xs x
theorem rc_max (hc : X.calm = true) (hK : X.K = Γ.K) : CallR X (.builtin "max") (rDN Γ fMax) := lst_call (cr_max hc) fMax_one fun Fz Bz g xs a vs L H Q d e h1 h2 q => by
  simp only [fMax, Option.bind_eq_some_iff] at e
  obtain ⟨ns, e1, e⟩ := e
  by_cases c : ns = []
  · rw [if_pos c] at e; cases e
  rw [if_neg c] at e
  cases e
  have e2 := ints_of e1
  subst e2
  have e3 := h2.dints
  subst e3
  refine ⟨a, ns, rfl, by rw [hK]; exact h1, List.length_pos_iff.mpr c, fun m hm hle => ?_⟩
  have e4 : m = imax ns := Int.le_antisymm ((imax_mem c).2 m hm) (hle _ (imax_mem c).1)
  subst e4
  exact q _ H [] Same.refl' (.int _) fun a z => nomatch z
theorem rc_min (hc : X.calm = true) (hK : X.K = Γ.K) : CallR X (.builtin "min") (rDN Γ fMin) := lst_call (cr_min hc) fMin_one fun Fz Bz g xs a vs L H Q d e h1 h2 q => by
  simp only [fMin, Option.bind_eq_some_iff] at e
  obtain ⟨ns, e1, e⟩ := e
  by_cases c : ns = []
  · rw [if_pos c] at e; cases e
  rw [if_neg c] at e
  cases e
  have e2 := ints_of e1
  subst e2
  have e3 := h2.dints
  subst e3
  refine ⟨a, ns, rfl, by rw [hK]; exact h1, List.length_pos_iff.mpr c, fun m hm hle => ?_⟩
  have e4 : m = imin ns := Int.le_antisymm (hle _ (imin_mem c).1) ((imin_mem c).2 m hm)
  subst e4
  exact q _ H [] Same.refl' (.int _) fun a z => nomatch z
end
end DL

namespace DL
open PySem PySem.Spec L2
section
variable {Γ : Gm} {X : Cx}
/-! ### list(..), tuple(..) -/
def fList : List D → Option D
  | [.lst _ xs] => some (.lst .own xs)
  | [.tup xs] => some (.lst .own xs)
  | _ => none
def fTuple : List D → Option D
  | [.lst _ xs] => some (.tup xs)
  | [.tup xs] => some (.tup xs)
  | _ => none
theorem rc_list (hK : X.K = Γ.K) : CallR X (.type "list") (rDN Γ fList) := by
  intro pins s σ H xs us Q I rx q
  obtain ⟨Fz, Bz, ds, L1, r1, q⟩ := q
  match ds, r1, q with
  | [.lst f ys], r1, q =>
    obtain ⟨v, rfl, r⟩ := r1.one
    obtain ⟨a, vs, La, rfl, h1, h2, h3⟩ := r.lst_r
    exact call_list_of pins s σ H _ us Q I rx ⟨a, vs, rfl, .inl (by rw [hK]; exact h1), fun l hl => q _ _ (l :: La) (same_upd hl) (h2.newL hl) (new_mem hl h3)⟩
  | [.tup ys], r1, q =>
    obtain ⟨v, rfl, r⟩ := r1.one
    obtain ⟨a, vs, rfl, h1, h2⟩ := r.tup_r
    exact call_list_of pins s σ H _ us Q I rx ⟨a, vs, rfl, .inr (by rw [hK]; exact h1), fun l hl => q _ _ (l :: L1) (same_upd hl) (h2.newL hl) (new_mem hl fun a z => z)⟩
  | a :: _ :: _, _, q => cases a <;> exact (show False from q).elim
theorem rc_tuple (hK : X.K = Γ.K) : CallR X (.type "tuple") (rDN Γ fTuple) := by
  intro pins s σ H xs us Q I rx q
  obtain ⟨Fz, Bz, ds, L1, r1, q⟩ := q
  match ds, r1, q with
  | [.lst f ys], r1, q =>
    obtain ⟨v, rfl, r⟩ := r1.one
    obtain ⟨a, vs, La, rfl, h1, h2, h3⟩ := r.lst_r
    exact call_tuple_of pins s σ H _ us Q I rx ⟨a, vs, rfl, .inl ⟨by rw [hK]; exact h1, fun l hl => q _ _ La (same_upd hl) (h2.newT hl) fun b z => .inl (h3 b z)⟩⟩
  | [.tup ys], r1, q =>
    obtain ⟨v, rfl, r⟩ := r1.one
    obtain ⟨a, vs, rfl, h1, h2⟩ := r.tup_r
    exact call_tuple_of pins s σ H _ us Q I rx ⟨a, vs, rfl, .inr ⟨by rw [hK]; exact h1, q _ H L1 Same.refl' (.tup h1 h2) fun b z => .inl z⟩⟩
  | a :: _ :: _, _, q => cases a <;> exact (show False from q).elim

/-! ### slices -/
def cutD (xs : List D) (lo hi : Option Int) : List D := (xs.drop (HT.sIx xs.length 0 lo)).take (HT.sIx xs.length xs.length hi - HT.sIx xs.length 0 lo)
def dSlice : D → Option Int → Option Int → Option D
  | .lst _ xs, lo, hi => some (.lst .own (cutD xs lo hi))
  | .tup xs, lo, hi => if HT.sIx xs.length 0 lo = 0 ∧ HT.sIx xs.length xs.length hi = xs.length then none else some (.tup (cutD xs lo hi))
  | _, _, _ => none
theorem Reps.drop {Fz Bz : AS} {H : Hp} : ∀ (n : Nat) {vs : List V} {ds : List D} {L : List Addr}, Reps Γ Fz Bz H vs ds L → ∃ L', Reps Γ Fz Bz H (vs.drop n) (ds.drop n) L' ∧ ∀ a ∈ L', a ∈ L
  | 0, _, _, _, r => ⟨_, r, fun _ z => z⟩
  | n + 1, _, _, _, .nil => ⟨[], .nil, fun _ z => z⟩
  | n + 1, _, _, _, .cons r t s e => by
    obtain ⟨L', h1, h2⟩ := Reps.drop n t
    exact ⟨L', h1, fun a z => e ▸ List.mem_append_right _ (h2 a z)⟩
theorem Reps.take {Fz Bz : AS} {H : Hp} : ∀ (n : Nat) {vs : List V} {ds : List D} {L : List Addr}, Reps Γ Fz Bz H vs ds L → ∃ L', Reps Γ Fz Bz H (vs.take n) (ds.take n) L' ∧ ∀ a ∈ L', a ∈ L
  | 0, _, _, _, r => ⟨[], .nil, fun _ z => nomatch z⟩
  | n + 1, _, _, _, .nil => ⟨[], .nil, fun _ z => z⟩
  | n + 1, _, _, _, .cons (L1 := L1) r t s e => by
    obtain ⟨L', h1, h2⟩ := Reps.take n t
    exact ⟨L1 ++ L', .cons r h1 (fun a ha z => s a ha (h2 a z)) rfl, fun a z => e ▸ (List.mem_append.mp z).elim (fun z => List.mem_append_left _ z) fun z => List.mem_append_right _ (h2 a z)⟩
theorem Reps.cut {Fz Bz : AS} {H : Hp} {vs : List V} {ds : List D} {L : List Addr} (r : Reps Γ Fz Bz H vs ds L) (lo hi : Option Int) : ∃ L', Reps Γ Fz Bz H (cutV vs lo hi) (cutD ds lo hi) L' ∧ ∀ a ∈ L', a ∈ L := by
  unfold cutV cutD
  rw [r.len]
  obtain ⟨L1, h1, h2⟩ := r.drop (HT.sIx ds.length 0 lo)
  obtain ⟨L2, k1, k2⟩ := h1.take (HT.sIx ds.length ds.length hi - HT.sIx ds.length 0 lo)
  exact ⟨L2, k1, fun a z => h2 a (k2 a z)⟩
def rDS (Γ : Gm) : V → Option Int → Option Int → Hp → VK → Prop := fun x lo hi H Q => ∃ Fz Bz d L, Rep Γ Fz Bz H x d L ∧ match dSlice d lo hi with
  | some e => ∀ z H' Ld, Same H H' → Rep Γ Fz Bz H' z e Ld → (∀ a ∈ Ld, a ∈ L ∨ H a = none) → Q z H'
  | none => False
theorem rsl (hK : X.K = Γ.K) : SlR X (rDS Γ) := by
  intro pins s σ H x v vl vu lo hi sl Q I rx hs pl pu q
  obtain ⟨Fz, Bz, d, L, r, q⟩ := q
  cases d <;> first | exact q.elim | skip
  case lst f xs =>
    obtain ⟨a, vs, La, rfl, h1, h2, h3⟩ := r.lst_r
    refine sl_list pins s σ H _ v vl vu lo hi sl Q I rx hs pl pu ⟨a, vs, rfl, by rw [hK]; exact h1, fun p hp => ?_⟩
    obtain ⟨L', k1, k2⟩ := h2.cut lo hi
    exact q _ _ (p :: L') (same_upd hp) (k1.newL hp) (new_mem hp fun b z => h3 b (k2 b z))
  case tup xs =>
    obtain ⟨a, vs, rfl, h1, h2⟩ := r.tup_r
    by_cases c : HT.sIx xs.length 0 lo = 0 ∧ HT.sIx xs.length xs.length hi = xs.length
    · simp only [dSlice, if_pos c] at q
    · simp only [dSlice, if_neg c] at q
      refine sl_tup pins s σ H _ v vl vu lo hi sl Q I rx hs pl pu ⟨a, vs, rfl, by rw [hK]; exact h1, by rw [h2.len]; exact c, fun p hp => ?_⟩
      obtain ⟨L', k1, k2⟩ := h2.cut lo hi
      exact q _ _ L' (same_upd hp) (k1.newT hp) fun b z => .inl (k2 b z)
def pI : Option Pm → List Sl → R (Option Int)
  | none, _ => .ok none
  | some p, ρ => (p ρ).bind fun d => match d with
    | .int i => .ok (some i)
    | _ => .stuck
def pSlice (p : Pm) (lo hi : Option Pm) : Pm := fun ρ => (p ρ).bind fun d => (pI lo ρ).bind fun l => (pI hi ρ).bind fun h => R.of (dSlice d l h)
def tPO (Γ : Gm) (W : WX) : Option Pm → TO
  | none => tNoPart
  | some p => tPart (tP Γ W p)
end
section
variable {Γ : Gm} {W : WX} {X : Cx} {e : Expr} {p : Pm} {lo hi : Option Pm} {el eh : Option Expr} {pos p2 : Pos}
theorem part_step {Fz : AS} {H : Hp} {σ : L2.St} {ρ : List Sl} {L : List Addr} {o : Option Pm} {K : Option Int → Hp → Prop} (S : Stt Γ Fz H σ ρ L) (hs : pI o ρ ≠ .stuck) (hx : ∀ x, pI o ρ = .exn x → ∀ cls dx H' Fz', Out Γ Fz H none0 Fz' H' → XRep Γ H' x cls dx → W cls dx σ H')
    (h : ∀ i, pI o ρ = .ok i → ∀ H' Fz', Out Γ Fz H none0 Fz' H' → K i H') : tPO Γ W o σ H K := by
  cases o with
  | none => exact h none rfl H Fz (.refl S.trk S.tabs)
  | some p =>
    refine ⟨Fz, ρ, L, S, ?_⟩
    cases e : p ρ with
    | stuck => exact hs (by show (p ρ).bind _ = _; rw [e]; rfl)
    | exn x => exact hx x (by show (p ρ).bind _ = _; rw [e]; rfl)
    | ok d =>
      intro v H' Fz' Ld o r n
      cases d <;> first | exact absurd (by show (p ρ).bind _ = _; rw [e]; rfl) hs | skip
      case int i => exact ⟨i, r.int_v.1, h (some i) (by show (p ρ).bind _ = _; rw [e]; rfl) H' Fz' o⟩
theorem rpo_none : PO X none (tPO Γ W none) := po_none
theorem rpo_some (h : PE X e (tP Γ W p)) : PO X (some e) (tPO Γ W (some p)) := po_some h
theorem rp_slice (hK : X.K = Γ.K) (he : PE X e (tP Γ W p)) (hl : PO X el (tPO Γ W lo)) (hh : PO X eh (tPO Γ W hi)) : PE X (.Subscript e (.Slice el eh none p2) pos) (tP Γ W (pSlice p lo hi)) := by
  refine PEi (pe_slice (rsl hK) he hl hh) fun σ H Q h => ?_
  obtain ⟨Fz, ρ, L, S, h⟩ := h
  unfold pSlice at h
  refine ⟨Fz, ρ, L, S, ?_⟩
  cases e1 : p ρ with
  | stuck => rw [e1] at h; exact h
  | exn x => rw [e1] at h; exact h
  | ok d =>
    rw [e1, R.bind] at h
    intro v H1 Fz1 L1 o1 r1 n1
    refine part_step (S.grow o1) (fun z => ?_) (fun x z => ?_) fun l e2 H2 Fz2 o2 => ?_
    · rw [z] at h; exact h
    · rw [z] at h; exact fun cls dx H' Fz' o xr => h cls dx H' Fz' (o1.trans0 o) xr
    rw [e2, R.bind] at h
    have o12 := o1.trans0 o2
    refine part_step (S.grow o12) (fun z => ?_) (fun x z => ?_) fun u e3 H3 Fz3 o3 => ?_
    · rw [z] at h; exact h
    · rw [z] at h; exact fun cls dx H' Fz' o xr => h cls dx H' Fz' (o12.trans0 o) xr
    rw [e3, R.bind] at h
    have o23 := o2.trans0 o3
    have o13 := o1.trans0 o23
    refine ⟨Fz3, Bo L Fz3, d, L1, r1.out0 o23 (bo_up o23.up), ?_⟩
    cases e4 : dSlice d l u with
    | none => rw [e4] at h; exact h
    | some dd =>
      rw [e4] at h
      intro z H' Ld s r n
      refine fin_op (L1 := L1) S o13 (fun a q => ⟨(n1 a q).1, fun t => ?_⟩) h s r n
      rcases o23.new a t with t | t | t
      · exact (n1 a q).2 t
      · exact t
      · exact t (r1.wr a q).trk

/-! ### a < b < c -/
def pChain (f g : D → D → Option D) (p1 p2 p3 : Pm) : Pm := fun ρ => (p1 ρ).bind fun d1 => (p2 ρ).bind fun d2 => (R.of (f d1 d2)).bind fun z => (dB z).bind fun k => if k then (p3 ρ).bind fun d3 => R.of (g d2 d3) else .ok (.bl false)
theorem imp_chain {f g : D → D → Option D} {p1 p2 p3 : Pm} {σ : L2.St} {H : Hp} {Q : VK} (h : tP Γ W (pChain f g p1 p2 p3) σ H Q) : tChain (rD2 Γ f) (rD2 Γ g) (tP Γ W p1) (tP Γ W p2) (tP Γ W p3) σ H Q := by
  obtain ⟨Fz, ρ, L, S, h⟩ := h
  unfold pChain at h
  refine ⟨Fz, ρ, L, S, ?_⟩
  cases e1 : p1 ρ with
  | stuck => rw [e1] at h; exact h
  | exn x => rw [e1] at h; exact h
  | ok d1 =>
    rw [e1, R.bind] at h
    intro v1 H1 Fz1 L1 o1 r1 n1
    refine ⟨Fz1, ρ, L, S.grow o1, ?_⟩
    cases e2 : p2 ρ with
    | stuck => rw [e2] at h; exact h
    | exn x => rw [e2] at h; intro cls dx H' Fz' o2 xr; exact h cls dx H' Fz' (o1.trans0 o2) xr
    | ok d2 =>
      rw [e2, R.bind] at h
      intro v2 H2 Fz2 L2 o2 r2 n2
      have o := o1.trans0 o2
      have n1' : ∀ a ∈ L1, ¬ Fz2 a := fun a q t => by
        rcases o2.new a t with t | t | t
        · exact (n1 a q).2 t
        · exact t
        · exact t (r1.wr a q).trk
      refine ⟨Fz2, Bo L Fz2, d1, d2, L1, L2, r1.out0 o2 (bo_up o2.up), r2, fun a ha z => (n2 a z).1 (r1.wr a ha).trk, ?_⟩
      cases e3 : f d1 d2 with
      | none => rw [e3] at h; exact h
      | some d =>
        rw [e3, R.of, R.bind] at h
        intro z H' Ld s r n
        cases d <;> first | exact h.elim | skip
        case bl k =>
          refine ⟨k, r.isBl, ?_⟩
          have o3 := o.trans0 (Out.same (M := none0) o.trk o.tabs s)
          cases k with
          | false => exact h (.bl false) H' Fz2 [] o3 (.bl false) fun a z => nomatch z
          | true =>
            simp only [dB, R.bind, if_true] at h ⊢
            refine ⟨Fz2, ρ, L, S.grow o3, ?_⟩
            cases e4 : p3 ρ with
            | stuck => rw [e4] at h; exact h
            | exn x => rw [e4] at h; intro cls dx H' Fz' o4 xr; exact h cls dx H' Fz' (o3.trans0 o4) xr
            | ok d3 =>
              rw [e4] at h
              intro v3 H3 Fz3 L3 o4 r3 n3
              have ov := (Out.same (M := none0) o.trk o.tabs s).trans0 o4
              have oo := o.trans0 ov
              refine ⟨Fz3, Bo L Fz3, d2, d3, L2, L3, r2.out0 ov (bo_up ov.up), r3, fun a ha z => (n3 a z).1 ?_, ?_⟩
              · obtain ⟨ob, eb, nb⟩ := (r2.wr a ha).trk
                exact ⟨ob, s a ob eb, nb⟩
              dsimp only at h
              cases e5 : g d2 d3 with
              | none => rw [e5] at h; exact h
              | some dd =>
                rw [e5] at h
                intro z5 H5 Ld5 s5 r5 n5
                refine fin_op (L1 := L2 ++ L3) S oo (fun a ha => ?_) h s5 r5 fun a ha => ?_
                · rcases List.mem_append.mp ha with q | q
                  · refine ⟨fun t => (n2 a q).1 (o1.there a t), fun t => ?_⟩
                    rcases ov.new a t with t | t | t
                    · exact (n2 a q).2 t
                    · exact t
                    · exact t (r2.wr a q).trk
                  · exact ⟨fun t => (n3 a q).1 (o3.there a t), (n3 a q).2⟩
                · rcases n5 a ha with q | q | q
                  · exact .inl (List.mem_append_left _ q)
                  · exact .inl (List.mem_append_right _ q)
                  · exact .inr q
theorem rp_chain {a b c : Expr} {op op' : CmpOp} {f g : D → D → Option D} {p1 p2 p3 : Pm} (ho : OpR X (compareOp op) (rD2 Γ f)) (ho' : OpR X (compareOp op') (rD2 Γ g)) (ha : PE X a (tP Γ W p1)) (hb : PE X b (tP Γ W p2)) (hc : PE X c (tP Γ W p3)) (hm : lastMarks [op, op'] [b, c] = false := by with_unfolding_all rfl) :
    PE X (.Compare a [op, op'] [b, c] pos) (tP Γ W (pChain f g p1 p2 p3)) := PEi (pe_chain ho ho' ha hb hc hm) fun _ _ _ h => imp_chain h
theorem rt_chain {a b c : Expr} {op op' : CmpOp} {f g : D → D → Option D} {p1 p2 p3 : Pm} (ho : OpR X (compareOp op) (rD2 Γ f)) (ho' : OpR X (compareOp op') (rD2 Γ g)) (ha : PE X a (tP Γ W p1)) (hb : PE X b (tP Γ W p2)) (hc : PE X c (tP Γ W p3)) (hm : lastMarks [op, op'] [b, c] = false := by with_unfolding_all rfl) :
    PT X (.Compare a [op, op'] [b, c] pos) (tPT Γ W (pTst (pChain f g p1 p2 p3))) := PTi (pt_chain ho ho' ha hb hc hm) fun _ _ _ h => imp_chain (imp_tst h)
def dNeg : D → Option D
  | .int i => some (.int (-i))
  | _ => none
theorem ru_neg : UnR X (unaryOp .USub) (rD1 Γ dNeg) := by
  intro pins s σ H x v Q I rx q
  obtain ⟨Fz, Bz, d, L, r, q⟩ := q
  cases d <;> first | exact q.elim | skip
  case int i =>
    have e := r.int_v.1
    subst e
    exact un_neg pins s σ H _ v Q I rx ⟨i, rfl, q _ H [] Same.refl' (.int _) fun a z => nomatch z⟩

/-! ### isinstance of a built-in type -/
inductive Bt where | nonT | blT | intT | strT | tupT | lstT | dctT
  deriving DecidableEq
def Bt.name : Bt → String
  | .nonT => "NoneType" | .blT => "bool" | .intT => "int" | .strT => "str" | .tupT => "tuple" | .lstT => "list" | .dctT => "dict"
def isb (t T : Bt) : Bool := t == T || (t == .blT && T == .intT)
theorem isb_ok (t T : Bt) (h : T ≠ .nonT) : kitB t.name T.name = some (isb t T) := by
  cases T <;> first | exact absurd rfl h | (cases t <;> decide +kernel)
def D.bt : D → Option Bt
  | .non => some .nonT
  | .bl _ => some .blT
  | .int _ => some .intT
  | .str _ => some .strT
  | .tup _ => some .tupT
  | .lst _ _ => some .lstT
  | .dik _ _ _ => some .dctT
  | .dit .own _ _ => some .dctT
  | _ => none
theorem Rep.tyx {Fz Bz : AS} {H : Hp} {v : V} {d : D} {L : List Addr} {t : Bt} (r : Rep Γ Fz Bz H v d L) (h : d.bt = some t) : TyX Γ.K H v (.type t.name) := by
  have rdT : ∀ {a xs}, SqT Γ.K H a xs → TyX Γ.K H (.ref a) (.type "tuple") := fun {a xs} h => by
    rcases h with (h | ⟨o, h⟩) | ⟨o, its, n, h, c, _⟩
    · exact .base (.tup h)
    · exact .fTuple h
    · exact .kTuple h c
  have rdD : ∀ {a kv}, Rd H a (.dK kv) → TyX Γ.K H (.ref a) (.type "dict") := fun {a kv} h => by
    rcases h with h | ⟨o, h⟩
    · exact .base (.dK h)
    · exact .fDict h
  cases r <;> first | (cases h; done) | skip
  case non => cases h; exact .base .non
  case bl => cases h; exact .base (.bl _)
  case int => cases h; exact .base (.int _)
  case str => cases h; exact .base (.str _)
  case tup h1 h2 => cases h; exact rdT h1
  case lstO h1 h2 h3 => cases h; exact .base (.lst h1)
  case lstS h1 h2 h3 => cases h; exact .base (.lst h2.1)
  case lstK h1 h2 =>
    cases h
    rcases h1 with ⟨o, h1⟩ | ⟨o, its, n, h1, c, _⟩
    · exact .base (.frz h1)
    · exact .kList h1 c
  case dikO h1 _ _ _ _ => cases h; exact rdD (.inl h1)
  case dikS f _ _ _ _ h0 h1 _ _ _ _ => cases f <;> (cases h; exact rdD h1)
  case ditO h1 _ _ _ _ => cases h; exact .base (.dT h1)
  case ditS f _ _ _ _ h0 h1 _ _ _ _ => cases f <;> first | (cases h; done) | cases h0
def dIsi (T : Bt) : D → Option D := fun d => d.bt.map fun t => .bl (isb t T)
theorem rp_isi {T : Bt} {x : Str} {pc px : Pos} (hT : T ≠ .nonT) (hK : X.K = Γ.K) (hm : X.mg "isinstance" = none) (hmx : X.mg x = none) (he : PE X e (tP Γ W p)) (hvx : bootBuiltins x = some (.type T.name)) (hg : Gl X "isinstance" := by rfl) (hgx : Gl X x := by rfl) (hnx : x ≠ "__name__" := by decide) (hdx : (x == ("__debug__" : Str)) = false := by decide)
    (hst : starEach [e, .Name x px] X.env = (false, eval e X.env) :: starEach [.Name x px] X.env := by rfl) (hst2 : starEach (.Name x px :: []) X.env = (false, eval (.Name x px) X.env) :: starEach [] X.env := by rfl) (hpl : (backTo pos (starEach [.Name x px] X.env)).any (·.1) = false := by rfl) :
    PE X (.Call (.Name "isinstance" pc) [e, .Name x px] [] pos) (tP Γ W (pOp1 (dIsi T) p)) := by
  refine PEi (pe_callB call_isi hg hm (by decide +kernel) (pa_cons he (pa_cons (pe_bltn (v := .ty T.name) hgx hmx hvx rfl hnx hdx) pa_nil hst2) hst) (by decide) (by decide) hst hpl) fun σ H Q h => ?_
  refine tP_mono (imp_op1 h) fun x H1 q => ?_
  obtain ⟨Fz, Bz, d, L, r, q⟩ := q
  cases e1 : d.bt with
  | none => simp only [dIsi, e1, Option.map_none] at q
  | some t =>
    simp only [dIsi, e1, Option.map_some] at q
    exact ⟨x, .ty T.name, .type t.name, .type T.name, isb t T, rfl, .ty _, by rw [hK]; exact r.tyx e1, kit_ty (isb_ok t T hT), q _ H1 [] Same.refl' (.bl _) fun a z => nomatch z⟩
end
end DL

namespace DL
open PySem PySem.Spec L2

/-! ### a slot's own object is changed -/
/-- the frame behind a change of slot i's object alone -/
theorem put_back {Γ : Gm} {Fz1 : AS} {H1 : Hp} {σ : L2.St} {ρ1 : List Sl} {L1 Li Lr : List Addr} {i : Nat} {v0 : V} {d0 : D} {pp : Bool} (S1 : Stt Γ Fz1 H1 σ ρ1 L1) (e0 : ρ1[i]? = some (.val pp d0)) (hv0 : σ[i]? = some (some v0))
    (h3 : ∀ a, a ∈ L1 ↔ a ∈ Li ∨ a ∈ Lr) (h4 : ∀ a ∈ Li, a ∉ Lr) (h5 : Envs Γ Fz1 H1 σ (ρ1.set i .emp) Lr)
    {a : Addr} {o : HO} (ha : a ∈ Li) (mo : Mut (some o)) (nx : ∀ φ, o ≠ .ext φ) {d' : D} {L' : List Addr} (r' : Rep Γ Fz1 none0 (upd H1 a o) v0 d' L') (n' : ∀ b ∈ L', ¬ Fz1 b ∧ b ∉ Lr) :
    Out Γ Fz1 H1 (· ∈ L1) Fz1 (upd H1 a o) ∧ ∃ L2, Stt Γ Fz1 (upd H1 a o) σ (ρ1.set i (.val pp d')) L2 ∧ ∀ b, b ∈ L2 ↔ b ∈ L' ∨ b ∈ Lr := by
  have ho : ∀ ps, o ≠ .tbl ps := fun ps z => by subst z; exact mo
  have ha1 : a ∈ L1 := (h3 a).mpr (.inl ha)
  have wa := S1.env.wr a ha1
  have tr : ∀ b, Trk H1 b → Trk (upd H1 a o) b := fun b ⟨ob, e, n⟩ => by
    by_cases z : b = a
    · subst z; exact ⟨o, upd_same, ho⟩
    · exact ⟨ob, by rw [upd_ne z]; exact e, n⟩
  have tabs : LamX.Tabs Γ.T (upd H1 a o) := fun p hp => by
    obtain ⟨ps, t1, t2, t3⟩ := S1.tabs p hp
    have nt : p.1 ≠ a := fun z => by
      obtain ⟨ob, e, m, _⟩ := wa
      rw [z] at t1
      rw [t1] at e; cases e; exact m
    refine ⟨ps, by rw [upd_ne nt]; exact t1, t2, fun pos cv hc => ?_⟩
    obtain ⟨c, e1, e2⟩ := t3 pos cv hc
    refine ⟨c, e1, ?_⟩
    by_cases z : c = a
    · subst z
      obtain ⟨ob, e, m, nn⟩ := wa
      rw [e2] at e
      cases e
      exact absurd rfl (nn _)
    · rw [upd_ne z]; exact e2
  have keep : Keep (· = a) H1 (upd H1 a o) := fun b ob e nb _ => by rw [upd_ne nb]; exact e
  have O : Out Γ Fz1 H1 (· ∈ L1) Fz1 (upd H1 a o) := ⟨keep.mono fun b z => by subst z; exact ha1, tr, fun _ z => z, fun _ z => .inl z, fun b z => tr b (S1.trk b z), tabs⟩
  have mu : MutS (· = a) H1 := fun b z => by
    subst z
    exact mutS_of S1.env.wr b ha1
  have e6 := h5.keep (Fz' := Fz1) keep mu (fun b z => ⟨fun u => S1.dis b (u ▸ ha1) z, z⟩) fun b hb z => h4 b (z ▸ ha) hb
  have il : i < ρ1.length := (List.getElem?_eq_some_iff.mp e0).1
  obtain ⟨L2, e7, e8⟩ := e6.put (i := i) (v := v0) pp (by simp [il]) hv0 r' fun b hb => (n' b hb).2
  rw [List.set_set] at e8
  refine ⟨O, L2, ⟨e8, fun b hb => ?_, O.trk, tabs⟩, e7⟩
  rcases (e7 b).mp hb with z | z
  · exact (n' b z).1
  · exact S1.dis b ((h3 b).mpr (.inr z))

/-- a method that changes its list (dict ..): what it holds behind it, what it hands out -/
def rDMut (Γ : Gm) (f : D → List D → Option (D × D)) : V → List V → Hp → VK → Prop := fun v vs H Q => ∃ Fz d0 ds L0 Ls, Rep Γ Fz none0 H v d0 L0 ∧ Reps Γ Fz none0 H vs ds Ls ∧ (∀ a ∈ L0, a ∉ Ls ∧ ¬ Fz a) ∧ match f d0 ds with
  | some (d', r) => ∀ a o w L' Lr, a ∈ L0 → Mut (some o) → (∀ φ, o ≠ .ext φ) → Rep Γ Fz none0 (upd H a o) v d' L' → Rep Γ Fz none0 (upd H a o) w r Lr → (∀ b ∈ L', b ∈ L0 ∨ b ∈ Ls) → (∀ b ∈ Lr, (b ∈ L0 ∨ b ∈ Ls) ∧ b ∉ L') → Q w (upd H a o)
  | none => False
def eMut (i : Nat) (f : D → List D → Option (D × D)) (q : EA') : Em := fun ρ => match ρ[i]? with
  | some (.val _ (.lst .own _)) => (q ρ).bind fun x => match x.2[i]? with
    | some (.val p d0) => match f d0 x.1 with
      | some (d', r) => .ok (r, x.2.set i (.val p d'))
      | none => .stuck
    | _ => .stuck
  | _ => .stuck
section
variable {Γ : Gm} {W : WX} {X : Cx} {es : List Expr} {e : Expr} {eq : EA'} {y : Str} {i : Nat} {f : D → List D → Option (D × D)} {name : Str} {id : String} {apos cpos py : Pos}
theorem imp_mut {σ : L2.St} {H : Hp} {Q : VK} (h : tE Γ W (eMut i f eq) σ H Q) : ∃ v0, σ[i]? = some (some v0) ∧ (∃ p xs, v0 = .ref p ∧ SqL Γ.K H p xs) ∧ tEA Γ W eq σ H fun vs H1 => rDMut Γ f v0 vs H1 Q := by
  obtain ⟨Fz, ρ, L, S, h⟩ := h
  unfold eMut at h
  cases es0 : ρ[i]? with
  | none => rw [es0] at h; exact h.elim
  | some sl0 =>
  cases sl0 with
  | emp => rw [es0] at h; exact h.elim
  | val pp0 dd0 =>
  rw [es0] at h
  cases dd0 <;> first | exact h.elim | skip
  rename_i ff xs0
  cases ff <;> first | exact h.elim | skip
  dsimp only at h
  obtain ⟨v0, _, _, hv0, rr0, _⟩ := S.env.take es0
  have lst0 : ∃ p xs, v0 = .ref p ∧ SqL Γ.K H p xs := by
    obtain ⟨a, vs, _, e1, e2, _⟩ := rr0.lst_r
    exact ⟨a, vs, e1, e2⟩
  refine ⟨v0, hv0, lst0, Fz, ρ, L, S, ?_⟩
  cases e1 : eq ρ with
  | stuck => rw [e1] at h; exact h
  | exn x => rw [e1] at h; exact h
  | ok z1 =>
    obtain ⟨ds, ρ1⟩ := z1
    rw [e1, R.bind] at h
    dsimp only at h
    intro vs H1 Fz1 L1 Ld o1 S1 r1 n1 k1 q1
    cases e0 : ρ1[i]? with
    | none => rw [e0] at h; exact h.elim
    | some sl =>
      cases sl with
      | emp => rw [e0] at h; exact h.elim
      | val pp d0 =>
        rw [e0] at h
        dsimp only at h
        obtain ⟨v, Li, Lr, h1, h2, h3, h4, h5⟩ := S1.env.take e0
        rw [hv0] at h1
        cases h1
        have nLi : ∀ a ∈ Li, a ∈ L1 := fun a z => (h3 a).mpr (.inl z)
        refine ⟨Fz1, d0, ds, Li, Ld, h2, r1, fun a ha => ⟨fun z => (n1 a z).1 (nLi a ha), S1.dis a (nLi a ha)⟩, ?_⟩
        cases e2 : f d0 ds with
        | none => rw [e2] at h; exact h.elim
        | some dr =>
          obtain ⟨d', r⟩ := dr
          rw [e2] at h
          dsimp only at h
          intro a o w L' Lw ha mo nx r' rw' s' sr
          have nn : ∀ b, b ∈ Li ∨ b ∈ Ld → ¬ Fz1 b ∧ b ∉ Lr := fun b z => z.elim (fun z => ⟨S1.dis b (nLi b z), h4 b z⟩) fun z => ⟨(n1 b z).2, fun u => (n1 b z).1 ((h3 b).mpr (.inr u))⟩
          obtain ⟨O, L2, S2, m2⟩ := put_back S1 e0 hv0 h3 h4 h5 ha mo nx r' fun b hb => nn b (s' b hb)
          have kk : ∀ b, b ∈ Li ∨ b ∈ Ld → b ∈ L ∨ ¬ Trk H b := fun b z => k1 b (z.imp (nLi b) id)
          refine h w _ Fz1 L2 Lw (o1.transL O fun c z => k1 c (.inl z)) S2 rw' (fun b hb => ⟨fun z => ?_, (nn b (sr b hb).1).1⟩) (fun b hb => ?_) fun j d2 ej => ?_
          · rcases (m2 b).mp z with z | z
            · exact (sr b hb).2 z
            · exact (nn b (sr b hb).1).2 z
          · rcases hb with hb | hb
            · rcases (m2 b).mp hb with z | z
              · exact kk b (s' b z)
              · exact k1 b (.inl ((h3 b).mpr (.inr z)))
            · exact kk b (sr b hb).1
          · obtain ⟨d3, e7⟩ := q1 j d2 ej
            by_cases ij : i = j
            · subst ij
              rw [e0] at e7
              cases e7
              exact ⟨d', by rw [List.getElem?_set_self (List.getElem?_eq_some_iff.mp e0).1]⟩
            · exact ⟨d3, by rw [List.getElem?_set_ne ij]; exact e7⟩
theorem re_mut (hK : X.K = Γ.K) (slot : PySem.Slot "list" name id) (hty : typeOf (.builtin id) = pure (.type "method_descriptor")) (hm : MtR X id (rDMut Γ f)) (ha : PA X (e :: es) (tEA Γ W eq)) (hN : X.N[i]? = some y := by rfl) (hv : Vis X.env.scope y := by first | exact Or.inl rfl | exact Or.inr (Or.inl rfl) | exact Or.inr (Or.inr rfl))
    (hd : (y == ("__debug__" : Str)) = false := by decide) (hcd : (y == ("__classdict__" : Str)) = false := by decide)
    (hbase : attributeBase (.Name y py) name X.env (eval (.Name y py) X.env) = eval (.Name y py) X.env := by rfl)
    (hfew : ((backTo cpos (starEach (e :: es) X.env)).all (fun x => !x.1) && (backToKw cpos (keywordEach [] X.env)).all (fun x => x.1.isSome)
      && decide ((e :: es).length + ([] : List Keyword).length + (if ([] : List Keyword).isEmpty then 0 else 1) < 30)) = true := by rfl)
    (hline : (apos.endLine == cpos.line) = true := by rfl) (hs : starEach (e :: es) X.env = (false, eval e X.env) :: starEach es X.env := by rfl) (hplain : (backTo cpos (starEach es X.env)).any (·.1) = false := by rfl) :
    PE X (.Call (.Attribute (.Name y py) name apos) (e :: es) [] cpos) (tE Γ W (eMut i f eq)) := by
  refine PEi (pe_bm PySem.F.plainAttrs_list slot hty hm (pe_var hN hv hd hcd) ha hbase hfew hline hs hplain) fun σ H Q h => ?_
  obtain ⟨v0, hv0, ⟨p, xs, e1, e2⟩, hh⟩ := imp_mut h
  subst e1
  exact ⟨_, hv0, .inl ⟨rfl, xs, by rw [hK]; exact e2⟩, hh⟩
theorem re_mut0 (hK : X.K = Γ.K) (slot : PySem.Slot "list" name id) (hty : typeOf (.builtin id) = pure (.type "method_descriptor")) (hm : MtR X id (rDMut Γ f)) (hN : X.N[i]? = some y := by rfl) (hv : Vis X.env.scope y := by first | exact Or.inl rfl | exact Or.inr (Or.inl rfl) | exact Or.inr (Or.inr rfl))
    (hd : (y == ("__debug__" : Str)) = false := by decide) (hcd : (y == ("__classdict__" : Str)) = false := by decide)
    (hbase : attributeBase (.Name y py) name X.env (eval (.Name y py) X.env) = eval (.Name y py) X.env := by rfl) (hline : (apos.endLine == cpos.line) = true := by rfl) :
    PE X (.Call (.Attribute (.Name y py) name apos) [] [] cpos) (tE Γ W (eMut i f eNil)) := by
  refine PEi (pe_bm0 PySem.F.plainAttrs_list slot hty hm (pe_var hN hv hd hcd) hbase hline) fun σ H Q h => ?_
  obtain ⟨v0, hv0, ⟨p, xs, e1, e2⟩, hh⟩ := imp_mut h
  subst e1
  refine ⟨_, hv0, .inl ⟨rfl, xs, by rw [hK]; exact e2⟩, ?_⟩
  obtain ⟨Fz, ρ, L, S, hh⟩ := hh
  exact hh [] H Fz L [] (.refl S.trk S.tabs) S .nil (fun a z => nomatch z) (fun a z => z.elim .inl fun z => nomatch z) (.refl ρ)
/-! the methods -/
def gApp : D → List D → Option (D × D)
  | .lst .own xs, [d] => if xs.length < 16777216 then some (.lst .own (xs ++ [d]), .non) else none
  | _, _ => none
theorem Reps.upd_at {Fz Bz : AS} {H : Hp} {vs : List V} {ds : List D} {L : List Addr} {p : Addr} {o ob : HO} (r : Reps Γ Fz Bz H vs ds L) (hp : H p = some ob) (hm : Mut (some ob)) (hL : p ∉ L) (hF : ¬ Fz p) (hB : ¬ Bz p) : Reps Γ Fz Bz (L2.upd H p o) vs ds L :=
  r.keep (M := (· = p)) (fun b u e nb _ => by rw [upd_ne nb]; exact e) (fun b z => by
      subst z
      refine ⟨fun xs q => ?_, fun oo u z => ?_⟩
      · rcases q with q | ⟨oo, q⟩
        · rw [hp] at q; cases q; exact hm
        · rw [hp] at q; cases q; exact hm
      · rw [hp] at z; cases z; exact hm) (fun b z => ⟨fun u => hF (u ▸ z), z⟩) (fun b z => ⟨fun u => hB (u ▸ z), z⟩) fun a ha z => hL (z ▸ ha)
theorem lst_own {Fz Bz : AS} {H : Hp} {v : V} {xs : List D} {L : List Addr} (r : Rep Γ Fz Bz H v (.lst .own xs) L) : ∃ a vs La, v = .ref a ∧ H a = some (.lst vs) ∧ Reps Γ Fz Bz H vs xs La ∧ a ∉ La ∧ L = a :: La := by
  cases r with
  | lstO h r n => exact ⟨_, _, _, rfl, h, r, n, rfl⟩
  | lstS hf h r => cases hf
theorem rm_app : MtR X "list.append" (rDMut Γ gApp) := by
  intro pins s σ H x vs v us Q I rx rv q
  obtain ⟨Fz, d0, ds, L0, Ls, r0, rs, dj, q⟩ := q
  match d0, ds, r0, rs, q with
  | .lst .own xs, [d], r0, rs, q =>
    by_cases c : xs.length < 16777216
    case neg => simp only [gApp, if_neg c] at q
    simp only [gApp, if_pos c] at q
    obtain ⟨a, ws, La, rfl, h1, h2, h3, rfl⟩ := lst_own r0
    obtain ⟨w, rfl, rw0⟩ := rs.one
    have ha := dj a List.mem_cons_self
    refine mt_append pins s σ H _ _ v us Q I rx rv ⟨a, ws, w, rfl, rfl, h1, by rw [h2.len, PySem.sizeLine_eq]; exact c, ?_⟩
    have e2 := h2.upd_at (o := .lst (ws ++ [w])) h1 True.intro h3 ha.2 id
    have e3 := rs.upd_at (o := .lst (ws ++ [w])) h1 True.intro ha.1 ha.2 id
    have dd : ∀ b ∈ La, b ∉ Ls := fun b z => (dj b (List.mem_cons_of_mem _ z)).1
    refine q a (.lst (ws ++ [w])) .non (a :: (La ++ Ls)) [] List.mem_cons_self True.intro (fun φ z => by cases z) (.lstO upd_same (Reps.app e2 e3 dd) fun z => (List.mem_append.mp z).elim h3 ha.1) .non (fun b hb => ?_) fun b z => nomatch z
    rcases List.mem_cons.mp hb with z | z
    · exact .inl (z ▸ List.mem_cons_self)
    · exact (List.mem_append.mp z).elim (fun z => .inl (List.mem_cons_of_mem _ z)) .inr
end
end DL

namespace DL
open PySem PySem.Spec L2
section
variable {Γ : Gm} {X : Cx}
theorem ro_iadd : OpR X (inplaceOp .Add) (rD2 Γ iAdd) := op_i2 (gv := fun i j => .int (i + j)) iop_add (fun i j H Q _ q => ⟨i, j, rfl, rfl, q⟩) fun _ _ => rfl
theorem ro_isub : OpR X (inplaceOp .Sub) (rD2 Γ iSub) := op_i2 (gv := fun i j => .int (i - j)) iop_sub (fun i j H Q _ q => ⟨i, j, rfl, rfl, q⟩) fun _ _ => rfl
theorem Reps.set {Fz Bz : AS} {H : Hp} : ∀ {vs : List V} {ds : List D} {L : List Addr} (j : Nat) {v : V} {d : D} {Ld : List Addr}, Reps Γ Fz Bz H vs ds L → Rep Γ Fz Bz H v d Ld → (∀ a ∈ Ld, a ∉ L) → ∃ L', Reps Γ Fz Bz H (vs.set j v) (ds.set j d) L' ∧ ∀ a ∈ L', a ∈ L ∨ a ∈ Ld
  | _, _, _, j, _, _, _, .nil, _, _ => ⟨[], .nil, fun _ z => nomatch z⟩
  | _, _, _, 0, _, _, Ld, .cons (L2 := L2) r t s e, r', dj => by
    subst e
    exact ⟨Ld ++ L2, .cons r' t (fun a z u => dj a z (List.mem_append_right _ u)) rfl, fun a z => (List.mem_append.mp z).elim .inr fun z => .inl (List.mem_append_right _ z)⟩
  | _, _, _, j + 1, _, _, Ld, .cons (L1 := L1) r t s e, r', dj => by
    subst e
    obtain ⟨L', h1, h2⟩ := Reps.set j t r' fun a z u => dj a z (List.mem_append_right _ u)
    refine ⟨L1 ++ L', .cons r h1 (fun a z u => ?_) rfl, fun a z => ?_⟩
    · rcases h2 a u with w | w
      · exact s a z w
      · exact dj a w (List.mem_append_left _ z)
    · rcases List.mem_append.mp z with z | z
      · exact .inl (List.mem_append_left _ z)
      · exact (h2 a z).imp (fun z => List.mem_append_right _ z) id
end
/-- o[i] = v on data -/
def rDSet (Γ : Gm) (f : D → D → D → Option D) : V → V → V → Hp → (Hp → Prop) → Prop := fun o i v H Q => ∃ Fz d0 k d L0 Lk Ld, Rep Γ Fz none0 H o d0 L0 ∧ Rep Γ Fz none0 H i k Lk ∧ Rep Γ Fz none0 H v d Ld ∧ (∀ a ∈ L0, a ∉ Lk ∧ a ∉ Ld ∧ ¬ Fz a) ∧ match f d0 k d with
  | some d' => ∀ a ob L', a ∈ L0 → Mut (some ob) → (∀ φ, ob ≠ .ext φ) → Rep Γ Fz none0 (upd H a ob) o d' L' → (∀ b ∈ L', b ∈ L0 ∨ b ∈ Ld) → Q (upd H a ob)
  | none => False
def gSetL : D → D → D → Option D
  | .lst .own xs, .int k, d => (ixN xs.length k).map fun j => .lst .own (xs.set j d)
  | _, _, _ => none
def sSub (i : Nat) (f : D → D → D → Option D) (mk m : Em) : Sm := fun ρ => (m ρ).bind fun x => match x.2[i]? with
  | some (.val _ _) => (mk x.2).bind fun y => match y.2[i]? with
    | some (.val p d0) => match f d0 y.1 x.1 with
      | some d' => .ok (.nx (y.2.set i (.val p d')))
      | none => .stuck
    | _ => .stuck
  | _ => .stuck
def closed (d : D) : Bool := d.all fun _ => false
def sAug (i : Nat) (f : D → D → Option D) (m : Em) : Sm := fun ρ => match ρ[i]? with
  | some (.val _ d0) => if closed d0 then (m ρ).bind fun x => match f d0 x.1 with
      | some d => sSet i (fun ρ => .ok (d, ρ)) x.2
      | none => .stuck
    else .stuck
  | _ => .stuck
def sAugSub (i : Nat) (g : D → D → Option D) (f : D → D → Option D) (h : D → D → D → Option D) (mk m : Em) : Sm := fun ρ => match ρ[i]? with
  | some (.val _ _) => (mk ρ).bind fun k => match k.2[i]? with
    | some (.val _ d0) => if closed k.1 then match g d0 k.1 with
      | some d1 => if closed d1 then (m k.2).bind fun x => match f d1 x.1 with
          | some d2 => match x.2[i]? with
            | some (.val p d0) => match h d0 k.1 d2 with
              | some d' => .ok (.nx (x.2.set i (.val p d')))
              | none => .stuck
            | _ => .stuck
          | none => .stuck
        else .stuck
      | none => .stuck else .stuck
    | _ => .stuck
  | _ => .stuck
section
variable {Γ : Gm} {W : WX} {X : Cx} {e ek : Expr} {m mk : Em} {y : Str} {i : Nat} {f : D → D → D → Option D} {pos tpos py : Pos}
theorem rps_list : PSet X (rDSet Γ gSetL) := by
  intro pins s σ H o i v ov iv u Q I ro ri rv q
  obtain ⟨Fz, d0, k, d, L0, Lk, Ld, r0, rk, rd, dj, q⟩ := q
  match d0, k, r0, rk, q with
  | .lst .own xs, .int k, r0, rk, q =>
    have ei := rk.int_v.1
    subst ei
    obtain ⟨a, ws, La, rfl, h1, h2, h3, rfl⟩ := lst_own r0
    cases ej : ixN xs.length k with
    | none => simp only [gSetL, ej, Option.map_none] at q
    | some j =>
      simp only [gSetL, ej, Option.map_some] at q
      have ha := dj a List.mem_cons_self
      refine set_list pins s σ H _ _ v ov iv u Q I ro ri rv ⟨a, ws, k, j, rfl, rfl, h1, by rw [h2.len]; exact ej, ?_⟩
      have e2 := h2.upd_at (o := .lst (ws.set j v)) h1 True.intro h3 ha.2.2 id
      have e3 : Rep Γ Fz none0 (upd H a (.lst (ws.set j v))) v d Ld := by
        have := (Reps.cons (L1 := Ld) (L2 := []) rd .nil (fun _ _ z => nomatch z) rfl).upd_at (o := .lst (ws.set j v)) h1 True.intro (by simpa using ha.2.1) ha.2.2 id
        obtain ⟨_, e4, r4⟩ := this.one
        cases e4
        simpa using r4
      obtain ⟨L', e4, e5⟩ := e2.set j e3 fun b z u => (dj b (List.mem_cons_of_mem _ u)).2.1 z
      refine q a _ (a :: L') List.mem_cons_self True.intro (fun φ z => by cases z) (.lstO upd_same e4 fun z => (e5 a z).elim h3 ha.2.1) fun b hb => ?_
      rcases List.mem_cons.mp hb with z | z
      · exact .inl (z ▸ List.mem_cons_self)
      · exact (e5 b z).imp (fun z => List.mem_cons_of_mem _ z) id
theorem closed_nil {Fz Bz : AS} {H : Hp} {v : V} {d : D} {L : List Addr} (r : Rep Γ Fz Bz H v d L) (c : closed d = true) : L = [] := r.noown (by
  have all : ∀ (p q : Fl → Bool), (∀ f, p f = true → q f = true) → ∀ d : D, d.all p = true → d.all q = true := fun p q h d => by
    have both : (∀ d : D, d.all p = true → d.all q = true) ∧ (∀ ds : List D, D.allL p ds = true → D.allL q ds = true) := by
      have hl : ∀ n, (∀ d : D, sizeOf d ≤ n → d.all p = true → d.all q = true) ∧ (∀ ds : List D, sizeOf ds ≤ n → D.allL p ds = true → D.allL q ds = true) := by
        intro n
        induction n with
        | zero => exact ⟨fun d hd => by cases d <;> simp at hd, fun ds hd => by cases ds <;> simp at hd⟩
        | succ n ih =>
          refine ⟨fun d hd z => ?_, fun ds hd z => ?_⟩
          · cases d <;> simp only [D.all, Bool.and_eq_true] at z ⊢
            case tup xs => exact ih.2 xs (by simp at hd; omega) z
            case lst f xs => exact ⟨h _ z.1, ih.2 xs (by simp at hd; omega) z.2⟩
            case dik f ks xs => exact ⟨h _ z.1, ih.2 xs (by simp at hd; omega) z.2⟩
            case dit f ks xs => exact ⟨h _ z.1, ih.2 xs (by simp at hd; omega) z.2⟩
            case obj f c ns xs => exact ⟨h _ z.1, ih.2 xs (by simp at hd; omega) z.2⟩
          · cases ds with
            | nil => rfl
            | cons d ds =>
              simp only [D.allL, Bool.and_eq_true] at z ⊢
              exact ⟨ih.1 d (by simp at hd; omega) z.1, ih.2 ds (by simp at hd; omega) z.2⟩
      exact ⟨fun d => (hl _).1 d (Nat.le_refl _), fun ds => (hl _).2 ds (Nat.le_refl _)⟩
    exact both.1 d
  exact all _ _ (fun f z => by cases z) d c)
theorem closed_any {Fz Bz Fz' Bz' : AS} {H : Hp} {v : V} {d : D} {L : List Addr} (r : Rep Γ Fz Bz H v d L) (c : closed d = true) : Rep Γ Fz' Bz' H v d L := r.chg (p := fun _ => false) (fun _ _ z => by cases z) c
/-- the end of a statement that changes slot i's object -/
theorem mut_end {Fz Fz1 : AS} {H H1 : Hp} {σ : L2.St} {ρ ρ1 : List Sl} {L L1 Ld Li Lr : List Addr} {v0 : V} {d0 : D} {pp : Bool} {d' : D} {Q : L2.St → Hp → Prop} (o1 : Out Γ Fz H (· ∈ L) Fz1 H1) (S1 : Stt Γ Fz1 H1 σ ρ1 L1) (e0 : ρ1[i]? = some (.val pp d0)) (hv0 : σ[i]? = some (some v0))
    (h3 : ∀ a, a ∈ L1 ↔ a ∈ Li ∨ a ∈ Lr) (h4 : ∀ a ∈ Li, a ∉ Lr) (h5 : Envs Γ Fz1 H1 σ (ρ1.set i .emp) Lr) (n1 : ∀ a ∈ Ld, a ∉ L1 ∧ ¬ Fz1 a) (k1 : ∀ a, a ∈ L1 ∨ a ∈ Ld → a ∈ L ∨ ¬ Trk H a) (q1 : PinE ρ ρ1)
    (h : SOut Γ Fz H L ρ σ (ρ1.set i (.val pp d')) Q) {a : Addr} {ob : HO} {L' : List Addr} (ha : a ∈ Li) (mo : Mut (some ob)) (nx : ∀ φ, ob ≠ .ext φ) (r' : Rep Γ Fz1 none0 (upd H1 a ob) v0 d' L') (s' : ∀ b ∈ L', b ∈ Li ∨ b ∈ Ld) : Q σ (upd H1 a ob) := by
  have nLi : ∀ a ∈ Li, a ∈ L1 := fun a z => (h3 a).mpr (.inl z)
  have nn : ∀ b, b ∈ Li ∨ b ∈ Ld → ¬ Fz1 b ∧ b ∉ Lr := fun b z => z.elim (fun z => ⟨S1.dis b (nLi b z), h4 b z⟩) fun z => ⟨(n1 b z).2, fun u => (n1 b z).1 ((h3 b).mpr (.inr u))⟩
  obtain ⟨O, L2, S2, m2⟩ := put_back S1 e0 hv0 h3 h4 h5 ha mo nx r' fun b hb => nn b (s' b hb)
  refine h σ _ Fz1 L2 (o1.transL O fun c z => k1 c (.inl z)) S2 (fun b hb => ?_) fun j d2 ej => ?_
  · rcases (m2 b).mp hb with z | z
    · exact k1 b ((s' b z).imp (nLi b) id)
    · exact k1 b (.inl ((h3 b).mpr (.inr z)))
  · obtain ⟨d3, e7⟩ := q1 j d2 ej
    refine ⟨rfl, ?_⟩
    by_cases ij : i = j
    · subst ij
      rw [e0] at e7
      cases e7
      exact ⟨d', by rw [List.getElem?_set_self (List.getElem?_eq_some_iff.mp e0).1]⟩
    · exact ⟨d3, by rw [List.getElem?_set_ne ij]; exact e7⟩
theorem rs_sub (hs : PSet X (rDSet Γ f)) (he : PE X e (tE Γ W m)) (hk : PE X ek (tE Γ W mk)) (hN : X.N[i]? = some y := by rfl) (hv : Vis X.env.scope y := by first | exact Or.inl rfl | exact Or.inr (Or.inl rfl) | exact Or.inr (Or.inr rfl)) (hd : (y == ("__debug__" : Str)) = false := by decide) (hcd : (y == ("__classdict__" : Str)) = false := by decide)
    (hasg : ∀ v, assign (.Subscript (.Name y py) ek tpos) X.env v = (do let ov ← holding [v] (eval (.Name y py) X.env); let iv ← holding [v, ov] (eval ek X.env); standAt tpos; holding [v, ov, iv] (setItem ov iv v); release [v, ov, iv] []) := by intro _; rfl)
    (hw : swapsWithSole [.Subscript (.Name y py) ek tpos] e pos.line X.env = pure false := by rfl) (hw2 : swappedStores [.Subscript (.Name y py) ek tpos] e X.env = pure none := by rfl) :
    PS X (.Assign [.Subscript (.Name y py) ek tpos] e pos) (tS Γ W (sSub i f mk m)) := by
  refine PSi (ps_asg he (pg_sub (pe_var hN hv hd hcd) hk hs hasg) hw hw2) fun D σ H h => ?_
  obtain ⟨Fz, ρ, L, S, h⟩ := h
  unfold sSub at h
  refine ⟨Fz, ρ, L, S, ?_⟩
  cases e1 : m ρ with
  | stuck => rw [e1] at h; exact h
  | exn x => rw [e1] at h; intro cls dx H' Fz' o xr; exact h cls dx σ H' Fz' o xr
  | ok z1 =>
    obtain ⟨d, ρ1⟩ := z1
    rw [e1, R.bind] at h
    dsimp only at h
    intro v H1 Fz1 L1 Ld o1 S1 r1 n1 k1 q1
    cases e2 : ρ1[i]? with
    | none => rw [e2] at h; exact h.elim
    | some sl =>
    cases sl with
    | emp => rw [e2] at h; exact h.elim
    | val pp0 dd0 =>
    rw [e2] at h
    dsimp only at h
    obtain ⟨v0, _, _, hv0, _⟩ := S1.env.take e2
    refine ⟨v0, hv0, Fz1, ρ1, L1, S1, ?_⟩
    cases e3 : mk ρ1 with
    | stuck => rw [e3] at h; exact h
    | exn x => rw [e3] at h; intro cls dx H' Fz' o xr; exact h cls dx σ H' Fz' (o1.transL o fun c z => k1 c (.inl z)) xr
    | ok z3 =>
      obtain ⟨k, ρ2⟩ := z3
      rw [e3, R.bind] at h
      dsimp only at h
      intro kv H2 Fz2 L2 Lk o2 S2 r2 n2 k2 q2
      obtain ⟨r1', n1'⟩ := tmp_keep S1 o2 r1 n1
      have o := o1.transL o2 fun c z => k1 c (.inl z)
      have t1 : ∀ a ∈ Ld, Trk H1 a := fun a ha => (r1.wr a ha).trk
      have nLd : ∀ a ∈ Ld, a ∉ L2 := fun a ha z => by
        rcases k2 a (.inl z) with u | u
        · exact (n1 a ha).1 u
        · exact u (t1 a ha)
      have back : ∀ a, a ∈ L1 ∨ ¬ Trk H1 a → a ∈ L ∨ ¬ Trk H a := fun a z => z.elim (fun z => k1 a (.inl z)) fun z => .inr fun t => z (o1.there a t)
      cases e4 : ρ2[i]? with
      | none => rw [e4] at h; exact h.elim
      | some sl =>
      cases sl with
      | emp => rw [e4] at h; exact h.elim
      | val pp d0 =>
      rw [e4] at h
      dsimp only at h
      obtain ⟨v, Li, Lr, h1, h2, h3, h4, h5⟩ := S2.env.take e4
      rw [hv0] at h1
      cases h1
      refine ⟨Fz2, d0, k, d, Li, Lk, Ld, h2, r2, r1', fun a ha => ⟨fun z => (n2 a z).1 ((h3 a).mpr (.inl ha)), fun z => nLd a z ((h3 a).mpr (.inl ha)), S2.dis a ((h3 a).mpr (.inl ha))⟩, ?_⟩
      cases e5 : f d0 k d with
      | none => rw [e5] at h; exact h.elim
      | some d' =>
        rw [e5] at h
        intro a ob L' ha mo nx r' s'
        exact mut_end (Ld := Ld) (Q := D.nx) o S2 e4 hv0 h3 h4 h5 (fun a z => ⟨nLd a z, n1' a z⟩) (fun a z => z.elim (fun z => back a (k2 a (.inl z))) fun z => k1 a (.inr z)) (q1.trans q2) h ha mo nx r' s'
end
end DL

namespace DL
open PySem PySem.Spec L2

/-! ### walks -/
def iLst (m : Em) : Im := fun ρ => (m ρ).bind fun x => match x.1 with
  | .lst _ xs => .ok (D.tagL toShr xs, x.2)
  | .tup xs => .ok (D.tagL toShr xs, x.2)
  | _ => .stuck
def rng (lo : Int) (n : Nat) : List D := (List.range n).map fun i => .int (lo + (i : Nat))
def iRng1 (m : Em) : Im := fun ρ => (m ρ).bind fun x => match x.1 with
  | .int j => if -4611686018427387904 ≤ j ∧ j < 4611686018427387904 then .ok (rng 0 j.toNat, x.2) else .stuck
  | _ => .stuck
def iRng2 (m n : Em) : Im := fun ρ => (m ρ).bind fun x => (n x.2).bind fun y => match x.1, y.1 with
  | .int i, .int j => if -4611686018427387904 ≤ i ∧ i < 4611686018427387904 ∧ -4611686018427387904 ≤ j ∧ j < 4611686018427387904 then .ok (rng i (j - i).toNat, y.2) else .stuck
  | _, _ => .stuck
section
variable {Γ : Gm} {W : WX} {X : Cx} {m n : Em} {tg e a b : Expr} {p pos : Pos}
theorem rep_sh {Fz : AS} {H : Hp} {vs : List V} {ds : List D} {L : List Addr} (r : Reps Γ Fz none0 H vs ds L) : Reps Γ (fun a => Fz a ∨ a ∈ L) none0 H vs (D.tagL toShr ds) [] := Reps.tagA rfl rfl sh_of r fun a ha => .inr ha
theorem nil_of {L : List Addr} (s : ∀ a ∈ L, a ∈ ([] : List Addr)) : L = [] := by
  cases L with
  | nil => rfl
  | cons b _ => exact nomatch s b List.mem_cons_self
def PLst (Γ : Gm) (a : Addr) (ds : List D) : AS → Hp → Prop := fun Fz H => ∃ vs, (ShL Fz H a vs ∨ KoL Γ H a vs) ∧ Reps Γ Fz none0 H vs ds []
theorem PLst.sq {a : Addr} {vs : List V} {Fz : AS} {H : Hp} (h : ShL Fz H a vs ∨ KoL Γ H a vs) : SqL Γ.K H a vs := h.elim (fun h => .inl (.inl h.1)) KoL.sq
theorem PLst.stay {a : Addr} {ds : List D} (Fz : AS) (H : Hp) (M : AS) (Fz' : AS) (H' : Hp) (h : PLst Γ a ds Fz H) (o : Out Γ Fz H M Fz' H') (mu : MutS M H) (n : ∀ a, Fz a → ¬ M a) : PLst Γ a ds Fz' H' := by
  obtain ⟨vs, h1, h2⟩ := h
  exact ⟨vs, h1.imp (fun h => o.keep.shL (fun b z => ⟨n b z, o.up b z⟩) h) fun h => o.keep.koL mu h, h2.keep o.keep mu (fun b z => ⟨n b z, o.up b z⟩) (fun _ z => z.elim) fun _ z => nomatch z⟩
theorem itl_ok (hK : X.K = Γ.K) {a : Addr} {ds : List D} : ItOk Γ (Itl X.K a) ds (PLst Γ a ds) where
  stay := PLst.stay
  go := fun Fz H i ⟨vs, h1, h2⟩ hi => ⟨vs, vs[i]'(by rw [h2.len]; exact hi), by rw [hK]; exact PLst.sq h1, List.getElem?_eq_getElem _⟩
  yld := fun Fz H i d x H' ⟨vs, h1, h2⟩ e y => by
    obtain ⟨rfl, y⟩ := y
    obtain ⟨v, Lj, e1, r, s⟩ := h2.get e
    have := y vs (by rw [hK]; exact PLst.sq h1)
    rw [e1] at this
    cases this
    have := nil_of s
    subst this
    exact ⟨Same.refl', r⟩
  stop := fun Fz H ⟨vs, h1, h2⟩ => ⟨vs, by rw [hK]; exact PLst.sq h1, by rw [h2.len]; exact Nat.le_refl _⟩
def PTup (Γ : Gm) (a : Addr) (ds : List D) : AS → Hp → Prop := fun Fz H => ∃ vs, SqT Γ.K H a vs ∧ Reps Γ Fz none0 H vs ds []
theorem itt_ok (hK : X.K = Γ.K) {a : Addr} {ds : List D} : ItOk Γ (Itt X.K a) ds (PTup Γ a ds) where
  stay := fun Fz H M Fz' H' ⟨vs, h1, h2⟩ o mu n => ⟨vs, o.keep.sqT mu h1, h2.keep o.keep mu (fun b z => ⟨n b z, o.up b z⟩) (fun _ z => z.elim) fun _ z => nomatch z⟩
  go := fun Fz H i ⟨vs, h1, h2⟩ hi => ⟨vs, vs[i]'(by rw [h2.len]; exact hi), by rw [hK]; exact h1, List.getElem?_eq_getElem _⟩
  yld := fun Fz H i d x H' ⟨vs, h1, h2⟩ e y => by
    obtain ⟨rfl, y⟩ := y
    obtain ⟨v, Lj, e1, r, s⟩ := h2.get e
    have := y vs (by rw [hK]; exact h1)
    rw [e1] at this
    cases this
    have := nil_of s
    subst this
    exact ⟨Same.refl', r⟩
  stop := fun Fz H ⟨vs, h1, h2⟩ => ⟨vs, by rw [hK]; exact h1, by rw [h2.len]; exact Nat.le_refl _⟩
theorem rng_get {lo : Int} {n i : Nat} {d : D} (h : (rng lo n)[i]? = some d) : d = .int (lo + (i : Nat)) ∧ i < n := by
  unfold rng at h
  rw [List.getElem?_map] at h
  by_cases hi : i < n
  · rw [List.getElem?_range hi] at h
    cases h
    exact ⟨rfl, hi⟩
  · rw [List.getElem?_eq_none (by simpa using hi)] at h
    cases h
theorem rng_len (lo : Int) (n : Nat) : (rng lo n).length = n := by simp [rng]
theorem itr_ok {lo : Int} {n : Nat} : ItOk Γ (Itr lo n) (rng lo n) (fun _ _ => True) where
  stay := fun _ _ _ _ _ _ _ _ _ => True.intro
  go := fun Fz H i _ hi => by rw [rng_len] at hi; exact hi
  yld := fun Fz H i d x H' _ e y => by
    obtain ⟨rfl, rfl⟩ := y
    rw [(rng_get e).1]
    exact ⟨Same.refl', .int _⟩
  stop := fun Fz H _ => by rw [rng_len]; exact Nat.le_refl _
/-- n numbers from the last down -/
def rngC (lo c : Int) (n : Nat) : List D := (List.range n).map fun i => .int (lo + (i : Nat) * c)
theorem itc_ok {lo c : Int} {n : Nat} : ItOk Γ (Itc lo c n) (rngC lo c n) (fun _ _ => True) where
  stay := fun _ _ _ _ _ _ _ _ _ => True.intro
  go := fun Fz H i _ hi => by simp only [rngC, List.length_map, List.length_range] at hi; exact hi
  yld := fun Fz H i d x H' _ e y => by
    obtain ⟨rfl, rfl⟩ := y
    unfold rngC at e
    rw [List.getElem?_map] at e
    by_cases hi : i < n
    · rw [List.getElem?_range hi] at e
      cases e
      exact ⟨Same.refl', .int _⟩
    · rw [List.getElem?_eq_none (by simpa using hi)] at e
      cases e
  stop := fun Fz H _ => by simp only [rngC, List.length_map, List.length_range]; exact Nat.le_refl _
theorem Rep.share {Fz : AS} {H : Hp} {v : V} {d : D} {L : List Addr} (r : Rep Γ Fz none0 H v d L) : Rep Γ (fun a => Fz a ∨ a ∈ L) none0 H v (d.tag toShr) [] := r.tagA rfl rfl sh_of fun a ha => .inr ha
/-- the frame where a temporary is shared -/
theorem Stt.freeze {Fz : AS} {H : Hp} {σ : L2.St} {ρ : List Sl} {L Ld : List Addr} (S : Stt Γ Fz H σ ρ L) (n : ∀ a ∈ Ld, a ∉ L) (tr : ∀ a ∈ Ld, Trk H a) : Stt Γ (fun a => Fz a ∨ a ∈ Ld) H σ ρ L :=
  ⟨S.env.keep (M := none0) .refl mutS0 (fun b z => ⟨id, .inl z⟩) fun _ _ z => z, fun b hb z => z.elim (S.dis b hb) fun z => n b z hb, fun b z => z.elim (S.trk b) (tr b), S.tabs⟩
theorem Out.freeze {Fz Fz1 : AS} {H H1 : Hp} {L Ld : List Addr} (o : Out Γ Fz H (· ∈ L) Fz1 H1) (k : ∀ a ∈ Ld, a ∈ L ∨ ¬ Trk H a) (tr : ∀ a ∈ Ld, Trk H1 a) : Out Γ Fz H (· ∈ L) (fun a => Fz1 a ∨ a ∈ Ld) H1 :=
  ⟨o.keep, o.there, fun b z => .inl (o.up b z), fun b z => z.elim (o.new b) fun z => .inr (k b z), fun b z => z.elim (o.trk b) (tr b), o.tabs⟩
/-- a list or tuple, shared for the walk -/
theorem ri_lst (hK : X.K = Γ.K) (h : PE X e (tE Γ W m)) : PI X tg e (tI Γ W (iLst m)) := by
  refine ⟨fun pins s σ H R I q => ?_⟩
  obtain ⟨Fz, ρ, L, S, q⟩ := q
  unfold iLst at q
  -- the reading of e, whatever it is to be used for
  have rd : ∀ K : VK, (∀ d ρ1, m ρ = .ok (d, ρ1) → ∀ v H1 Fz1 L1 Ld, Out Γ Fz H (· ∈ L) Fz1 H1 → Stt Γ Fz1 H1 σ ρ1 L1 → Rep Γ Fz1 none0 H1 v d Ld → (∀ a ∈ Ld, a ∉ L1 ∧ ¬ Fz1 a) → (∀ a, a ∈ L1 ∨ a ∈ Ld → a ∈ L ∨ ¬ Trk H a) → PinE ρ ρ1 → K v H1) → tE Γ W m σ H K := fun K hk => by
    refine ⟨Fz, ρ, L, S, ?_⟩
    cases e1 : m ρ with
    | stuck => rw [e1] at q; exact q
    | exn x => rw [e1] at q; exact q
    | ok z1 => obtain ⟨d, ρ1⟩ := z1; exact hk d ρ1 e1
  cases e1 : m ρ with
  | stuck => rw [e1] at q; exact q.elim
  | exn x => exact (pi_list (tg := tg) h).run pins s σ H R I (rd _ fun d ρ1 e => by rw [e1] at e; cases e)
  | ok z1 =>
    obtain ⟨d, ρ1⟩ := z1
    rw [e1, R.bind] at q
    cases d <;> first | exact q.elim | skip
    case tup xs =>
      dsimp only at q
      refine (pi_tup (tg := tg) h).run pins s σ H R I (rd _ fun d ρ2 e v H1 Fz1 L1 Ld o1 S1 r1 n1 k1 q1 => ?_)
      rw [e1] at e
      cases e
      have tr : ∀ a ∈ Ld, Trk H1 a := fun a z => (r1.wr a z).trk
      obtain ⟨a, vs, rfl, h1, h2⟩ := r1.tup_r
      exact ⟨a, rfl, ⟨vs, by rw [hK]; exact h1⟩, q (Itt X.K a) H1 _ L1 (PTup Γ a (D.tagL toShr xs)) (o1.freeze (fun a z => k1 a (.inr z)) tr) (S1.freeze (fun a z => (n1 a z).1) tr) (fun b z => k1 b (.inl z)) q1 (itt_ok hK) ⟨vs, h1, rep_sh h2⟩⟩
    case lst f xs =>
      dsimp only at q
      refine (pi_list (tg := tg) h).run pins s σ H R I (rd _ fun d ρ2 e v H1 Fz1 L1 Ld o1 S1 r1 n1 k1 q1 => ?_)
      rw [e1] at e
      cases e
      have tr : ∀ a ∈ Ld, Trk H1 a := fun a z => (r1.wr a z).trk
      have rs := r1.share
      unfold D.tag at rs
      have go : ∀ a vs, (ShL (fun b => Fz1 b ∨ b ∈ Ld) H1 a vs ∨ KoL Γ H1 a vs) → Reps Γ (fun b => Fz1 b ∨ b ∈ Ld) none0 H1 vs (D.tagL toShr xs) [] → ∃ a', V.ref a = V.ref a' ∧ (∃ xs, SqL X.K H1 a' xs) ∧ R (Itl X.K a') H1 := fun a vs h1 h2 =>
        ⟨a, rfl, ⟨vs, by rw [hK]; exact PLst.sq h1⟩, q (Itl X.K a) H1 _ L1 (PLst Γ a (D.tagL toShr xs)) (o1.freeze (fun a z => k1 a (.inr z)) tr) (S1.freeze (fun a z => (n1 a z).1) tr) (fun b z => k1 b (.inl z)) q1 (itl_ok hK) ⟨vs, h1, h2⟩⟩
      cases f with
      | kon => cases rs with
        | lstS hf h r => cases hf
        | lstK h r => exact go _ _ (.inr h) r
      | own => cases rs with
        | lstS hf h r => exact go _ _ (.inl h) r
      | shr => cases rs with
        | lstS hf h r => exact go _ _ (.inl h) r
      | bor => cases rs with
        | lstS hf h r => exact go _ _ (.inl h) r
theorem ri_rng1 (hm : X.mg "range" = none) (h : PE X a (tE Γ W m)) (hg : Gl X "range" := by rfl) (hs : starEach [a] X.env = [(false, eval a X.env)] := by rfl) : PI X tg (.Call (.Name "range" p) [a] [] pos) (tI Γ W (iRng1 m)) := by
  refine ⟨fun pins s σ H R I q => (pi_range1 (tg := tg) hg hm (pa_cons h pa_nil hs) hs).run pins s σ H R I ?_⟩
  obtain ⟨Fz, ρ, L, S, q⟩ := q
  unfold iRng1 at q
  refine ⟨Fz, ρ, L, S, ?_⟩
  cases e1 : m ρ with
  | stuck => rw [e1] at q; exact q
  | exn x => rw [e1] at q; exact q
  | ok z1 =>
    obtain ⟨d, ρ1⟩ := z1
    rw [e1, R.bind] at q
    intro v H1 Fz1 L1 Ld o1 S1 r1 n1 k1 q1
    cases d <;> first | exact q.elim | skip
    case int j =>
      dsimp only at q
      by_cases c : -4611686018427387904 ≤ j ∧ j < 4611686018427387904
      case neg => rw [if_neg c] at q; exact q.elim
      rw [if_pos c] at q
      exact ⟨j, by rw [r1.int_v.1], by omega, by omega, q (Itr 0 j.toNat) H1 Fz1 L1 (fun _ _ => True) o1 S1 (fun b z => k1 b (.inl z)) q1 itr_ok True.intro⟩
theorem ri_rng2 (hm : X.mg "range" = none) (h : PE X a (tE Γ W m)) (h' : PE X b (tE Γ W n)) (hg : Gl X "range" := by rfl) (hs : starEach [a, b] X.env = [(false, eval a X.env), (false, eval b X.env)] := by rfl) (hs2 : starEach [b] X.env = [(false, eval b X.env)] := by rfl) (hs3 : starEach [a, b] X.env = (false, eval a X.env) :: starEach [b] X.env := by rfl) : PI X tg (.Call (.Name "range" p) [a, b] [] pos) (tI Γ W (iRng2 m n)) := by
  refine ⟨fun pins s σ H R I q => (pi_range2 (tg := tg) hg hm (pa_cons h (pa_cons h' pa_nil hs2) hs3) hs hs2).run pins s σ H R I ?_⟩
  obtain ⟨Fz, ρ, L, S, q⟩ := q
  unfold iRng2 at q
  refine ⟨Fz, ρ, L, S, ?_⟩
  cases e1 : m ρ with
  | stuck => rw [e1] at q; exact q
  | exn x => rw [e1] at q; exact q
  | ok z1 =>
    obtain ⟨d, ρ1⟩ := z1
    rw [e1, R.bind] at q
    intro v H1 Fz1 L1 Ld o1 S1 r1 n1 k1 q1
    refine ⟨Fz1, ρ1, L1, S1, ?_⟩
    dsimp only at q
    cases e2 : n ρ1 with
    | stuck => rw [e2] at q; exact q
    | exn x => rw [e2] at q; intro cls dx H' Fz' o xr; exact q cls dx H' Fz' (o1.transL o fun c z => k1 c (.inl z)) xr
    | ok z2 =>
      obtain ⟨d2, ρ2⟩ := z2
      rw [e2, R.bind] at q
      intro v2 H2 Fz2 L2 Ld2 o2 S2 r2 n2 k2 q2
      cases d <;> first | exact q.elim | skip
      rename_i i
      cases d2 <;> first | exact q.elim | skip
      rename_i j
      dsimp only at q
      by_cases c : -4611686018427387904 ≤ i ∧ i < 4611686018427387904 ∧ -4611686018427387904 ≤ j ∧ j < 4611686018427387904
      case neg => rw [if_neg c] at q; exact q.elim
      rw [if_pos c] at q
      refine ⟨i, j, by rw [r1.int_v.1, r2.int_v.1], by omega, q (Itr i (j - i).toNat) H2 Fz2 L2 (fun _ _ => True) (o1.transL o2 fun c z => k1 c (.inl z)) S2 (fun b z => ?_) (q1.trans q2) itr_ok True.intro⟩
      rcases k2 b (.inl z) with u | u
      · exact k1 b (.inl u)
      · exact .inr fun t => u (o1.there b t)
/-- reversed(range(n)) -/
def iRevR (m : Em) : Im := fun ρ => (m ρ).bind fun x => match x.1 with
  | .int j => if -4611686018427387904 ≤ j ∧ j < 4611686018427387904 then .ok (rngC (j.toNat - 1) (-1) j.toNat, x.2) else .stuck
  | _ => .stuck
end
end DL

namespace DL
open PySem PySem.Spec L2

/-! ### comprehensions -/
def wipeD (ρ : List Sl) : List Nat → List Sl
  | [] => ρ
  | v :: vs => (wipeD ρ vs).set v .emp
def eT : Eb := fun ρ => .ok (true, ρ)
def noX {α : Type} : R α → R α
  | .ok a => .ok a
  | _ => .stuck
def lcL (t : Tg) (c : Eb) (e : Em) (vs : List Nat) : List D → List D → List Sl → R (List D × List Sl)
  | [], acc, ρ => .ok (acc, ρ)
  | d :: ds, acc, ρ => (R.of (t d ρ)).bind fun ρ1 => (noX (c ρ1)).bind fun b => if b.1 then (noX (e b.2)).bind fun y => if acc.length < 16777216 then lcL t c e vs ds (acc ++ [y.1]) (wipeD y.2 vs) else .stuck
    else lcL t c e vs ds acc (wipeD b.2 vs)
def empAt (ρ : List Sl) (vs : List Nat) : Bool := vs.all fun v => match ρ[v]? with
  | some .emp => true
  | _ => false
def eLc (im : Im) (vs : List Nat) (t : Tg) (c : Eb) (e : Em) : Em := fun ρ => (im ρ).bind fun x => if empAt x.2 vs then (lcL t c e vs x.1 [] x.2).bind fun y => .ok (.lst .own y.1, y.2) else .stuck

section
variable {Γ : Gm} {Fz Fz1 : AS} {H H1 : Hp} {σ σ' : L2.St} {ρ : List Sl} {L : List Addr}
theorem wipeD_len (ρ : List Sl) : ∀ vs, (wipeD ρ vs).length = ρ.length
  | [] => rfl
  | v :: vs => by unfold wipeD; rw [List.length_set, wipeD_len ρ vs]
theorem wipeD_get (ρ : List Sl) : ∀ (vs : List Nat) (j : Nat), (wipeD ρ vs)[j]? = if j ∈ vs ∧ j < ρ.length then some .emp else ρ[j]?
  | [], j => by simp [wipeD]
  | v :: vs, j => by
    unfold wipeD
    by_cases h : v = j
    · subst h
      by_cases hl : v < ρ.length
      · rw [List.getElem?_set_self (by rw [wipeD_len]; exact hl)]; simp [hl]
      · rw [List.getElem?_eq_none (by rw [List.length_set, wipeD_len]; omega), List.getElem?_eq_none (by omega)]; simp; omega
    · rw [List.getElem?_set_ne h, wipeD_get ρ vs j]
      simp [Ne.symm h]
theorem wipe_get (σ : L2.St) : ∀ (vs : List Nat) (j : Nat), (wipe σ vs)[j]? = if j ∈ vs ∧ j < σ.length then some none else σ[j]?
  | [], j => by simp [wipe]
  | v :: vs, j => by
    unfold wipe
    by_cases h : v = j
    · subst h
      by_cases hl : v < σ.length
      · rw [List.getElem?_set_self (by rw [wipe_length]; exact hl)]; simp [hl]
      · rw [List.getElem?_eq_none (by rw [List.length_set, wipe_length]; omega), List.getElem?_eq_none (by omega)]; simp; omega
    · rw [List.getElem?_set_ne h, wipe_get σ vs j]
      simp [Ne.symm h]
/-- the slots that are empty say nothing of σ -/
theorem Envs.agree (h : Envs Γ Fz H σ ρ L) : ∀ {σ' : L2.St}, σ'.length = σ.length → (∀ (j : Nat) p d, ρ[j]? = some (Sl.val p d) → σ'[j]? = σ[j]?) → Envs Γ Fz H σ' ρ L := by
  induction h with
  | nil => intro σ' hl _; cases σ' with
    | nil => exact .nil
    | cons _ _ => cases hl
  | emp t ih =>
    intro σ' hl ha
    cases σ' with
    | nil => cases hl
    | cons x σ' => exact .emp (ih (Nat.succ.inj hl) fun j p d e => by simpa using ha (j + 1) p d (by simpa using e))
  | val r t s e ih =>
    intro σ' hl ha
    cases σ' with
    | nil => cases hl
    | cons x σ' =>
      have h0 := ha 0 _ _ rfl
      simp at h0
      subst h0
      exact .val r (ih (Nat.succ.inj hl) fun j p d e => by simpa using ha (j + 1) p d (by simpa using e)) s e
theorem Stt.agree (S : Stt Γ Fz H σ ρ L) (hl : σ'.length = σ.length) (ha : ∀ (j : Nat) p d, ρ[j]? = some (Sl.val p d) → σ'[j]? = σ[j]?) : Stt Γ Fz H σ' ρ L := ⟨S.env.agree hl ha, S.dis, S.trk, S.tabs⟩
/-- slots forgotten -/
theorem Stt.wipe (S : Stt Γ Fz H σ ρ L) : ∀ vs : List Nat, ∃ L', Stt Γ Fz H σ (wipeD ρ vs) L' ∧ ∀ a ∈ L', a ∈ L
  | [] => ⟨L, S, fun _ z => z⟩
  | v :: vs => by
    obtain ⟨L1, S1, h1⟩ := S.wipe vs
    unfold wipeD
    by_cases hv : v < σ.length
    · obtain ⟨Lr, h2, h3⟩ := S1.env.drop v (σ[v]'hv)
      have e : σ.set v (σ[v]'hv) = σ := by
        apply List.ext_getElem?
        intro j
        by_cases z : v = j
        · subst z; rw [List.getElem?_set_self hv, List.getElem?_eq_getElem hv]
        · rw [List.getElem?_set_ne z]
      rw [e] at h3
      exact ⟨Lr, ⟨h3, fun a z => S1.dis a (h2 a z), S1.trk, S1.tabs⟩, fun a z => h1 a (h2 a z)⟩
    · have hl := S1.env.len
      have e : (wipeD ρ vs).set v .emp = wipeD ρ vs := List.set_eq_of_length_le (by omega)
      rw [e]
      exact ⟨L1, S1, h1⟩
theorem empAt_get {vs : List Nat} (h : empAt ρ vs = true) {j : Nat} (hj : j ∈ vs) : ρ[j]? = some .emp := by
  have := List.all_eq_true.mp h j hj
  cases e : ρ[j]? with
  | none => rw [e] at this; cases this
  | some s => cases s with
    | emp => rfl
    | val p d => rw [e] at this; cases this
theorem empAt_wipeD {ρ : List Sl} {vs : List Nat} (hv : ∀ v ∈ vs, v < ρ.length) : empAt (wipeD ρ vs) vs = true :=
  List.all_eq_true.mpr fun v hj => by rw [wipeD_get, if_pos ⟨hj, hv v hj⟩]
/-- a temporary list grows -/
theorem Stt.upd_tmp {a : Addr} {o ob : HO} (S : Stt Γ Fz H σ ρ L) (ha : a ∉ L) (hF : ¬ Fz a) (e : H a = some ob) (mb : Mut (some ob)) (nb : ∀ φ, ob ≠ .ext φ) (mo : Mut (some o)) : Stt Γ Fz (upd H a o) σ ρ L ∧ Out Γ Fz H (· = a) Fz (upd H a o) ∧ MutS (· = a) H := by
  have ho : ∀ ps, o ≠ .tbl ps := fun ps z => by subst z; exact mo
  have tr : ∀ b, Trk H b → Trk (upd H a o) b := fun b ⟨ob, e, n⟩ => by
    by_cases z : b = a
    · subst z; exact ⟨o, upd_same, ho⟩
    · exact ⟨ob, by rw [upd_ne z]; exact e, n⟩
  have tabs : LamX.Tabs Γ.T (upd H a o) := fun p hp => by
    obtain ⟨ps, t1, t2, t3⟩ := S.tabs p hp
    have nt : p.1 ≠ a := fun z => by rw [z] at t1; rw [t1] at e; cases e; exact mb
    refine ⟨ps, by rw [upd_ne nt]; exact t1, t2, fun pos cv hc => ?_⟩
    obtain ⟨c, e1, e2⟩ := t3 pos cv hc
    refine ⟨c, e1, ?_⟩
    by_cases z : c = a
    · subst z; rw [e2] at e; cases e; exact absurd rfl (nb _)
    · rw [upd_ne z]; exact e2
  have keep : Keep (· = a) H (upd H a o) := fun b ob e nb _ => by rw [upd_ne nb]; exact e
  have mu : MutS (· = a) H := fun b z => by
    subst z
    refine ⟨fun xs q => ?_, fun oo u z => ?_⟩
    · rcases q with q | ⟨oo, q⟩
      · rw [q] at e; cases e; exact mb
      · rw [q] at e; cases e; exact mb
    · rw [z] at e; cases e; exact mb
  exact ⟨⟨S.env.keep keep mu (fun b z => ⟨fun u => hF (u ▸ z), z⟩) fun b hb z => ha (z ▸ hb), S.dis, fun b z => tr b (S.trk b z), tabs⟩, ⟨keep, tr, fun _ z => z, fun _ z => .inl z, fun b z => tr b (S.trk b z), tabs⟩, mu⟩
end
section
variable {Γ : Gm} {W : WX} {X : Cx} {im : Im} {tg iter elt : Expr} {ifs : List Expr} {scope : Scope} {own : List (Str × Nat)} {pos : Pos} {t : Tg} {ts : List Nat} {c : Eb} {e : Em}
theorem imp_lc {g : TG} (gk : GOk Γ g t ts) (hts : ∀ j ∈ ts, j ∈ own.map (·.2)) {σ : L2.St} {H : Hp} {Q : VK} (h : tE Γ W (eLc im (own.map (·.2)) t c e) σ H Q) : tLc (tI Γ W im) g (tET Γ (fun _ _ _ _ => False) c) (tE Γ (fun _ _ _ _ => False) e) (own.map (·.2)) σ H Q := by
  obtain ⟨Fz, ρ, L, S, h⟩ := h
  unfold eLc at h
  generalize own.map (·.2) = vs at *
  refine ⟨Fz, ρ, L, S, ?_⟩
  cases e1 : im ρ with
  | stuck => rw [e1] at h; exact h
  | exn x => rw [e1] at h; exact h
  | ok z1 =>
    obtain ⟨ds, ρ1⟩ := z1
    rw [e1, R.bind] at h
    dsimp only at h
    intro J H1 Fz1 L1 P o1 S1 k1 q1 ik pp D0 hD
    by_cases ce : empAt ρ1 vs = true
    case neg => rw [if_neg ce] at h; exact h.elim
    rw [if_pos ce] at h
    have hvl : ∀ v ∈ vs, v < ρ1.length := fun v hv => (List.getElem?_eq_some_iff.mp (empAt_get ce hv)).1
    have agW : ∀ {ρ' : List Sl}, empAt ρ' vs = true → ∀ (j : Nat) p d, ρ'[j]? = some (Sl.val p d) → (wipe σ vs)[j]? = σ[j]? := fun {ρ'} ce j p d ej => by
      rw [wipe_get, if_neg]
      intro z
      rw [empAt_get ce z.1] at ej
      cases ej
    -- the end's demand, by the program that is left
    let Post : R (List D × List Sl) → Prop := fun r => match r with
      | .ok (ys, ρ') => ∀ v H' Fz' L' Ld, Out Γ Fz H (· ∈ L) Fz' H' → Stt Γ Fz' H' σ ρ' L' → Rep Γ Fz' none0 H' v (.lst .own ys) Ld → (∀ a ∈ Ld, a ∉ L' ∧ ¬ Fz' a) → (∀ a, a ∈ L' ∨ a ∈ Ld → a ∈ L ∨ ¬ Trk H a) → PinE ρ ρ' → Q v H'
      | _ => False
    have noexn : ∀ ds acc ρ x, lcL t c e vs ds acc ρ ≠ .exn x := by
      intro ds
      induction ds with
      | nil => intro acc ρ x z; cases z
      | cons d ds ih =>
        intro acc ρ x z
        unfold lcL at z
        cases e3 : t d ρ with
        | none => rw [e3] at z; cases z
        | some ρ1 =>
          rw [e3, R.of, R.bind] at z
          cases e4 : c ρ1 with
          | stuck => rw [e4] at z; cases z
          | exn x => rw [e4] at z; cases z
          | ok b =>
            rw [e4, noX, R.bind] at z
            cases eb : b.1 with
            | false => rw [eb, if_neg (by decide)] at z; exact ih _ _ _ z
            | true =>
              rw [eb, if_pos rfl] at z
              cases e5 : e b.2 with
              | stuck => rw [e5] at z; cases z
              | exn x => rw [e5] at z; cases z
              | ok y =>
                rw [e5, noX, R.bind] at z
                by_cases hl : acc.length < 16777216
                · rw [if_pos hl] at z; exact ih _ _ _ z
                · rw [if_neg hl] at z; cases z
    have hp : Post (lcL t c e vs ds [] ρ1) := by
      cases e2 : lcL t c e vs ds [] ρ1 with
      | stuck => rw [e2] at h; exact h.elim
      | exn x => exact absurd e2 (noexn _ _ _ _)
      | ok z => rw [e2] at h; exact h
    let Inv2 : Nat → Hp → Prop := fun i Hh => i ≤ ds.length ∧ ∃ Fz' ρ' L' accD LD, Out Γ Fz H (· ∈ L) Fz' Hh ∧ Stt Γ Fz' Hh (wipe σ vs) ρ' L' ∧ empAt ρ' vs = true ∧ Rep Γ Fz' none0 Hh (.ref D0) (.lst .own accD) LD ∧ (∀ a ∈ LD, a ∉ L' ∧ ¬ Fz' a) ∧ (∀ a, a ∈ L' ∨ a ∈ LD → a ∈ L ∨ ¬ Trk H a) ∧ PinE ρ ρ' ∧ ρ'.length = ρ1.length ∧ P Fz' Hh ∧ Post (lcL t c e vs (ds.drop i) accD ρ')
    have hl1 := S1.env.len
    have start : Inv2 0 (upd H1 D0 (.lst [])) := by
      have sm : Same H1 (upd H1 D0 (.lst [])) := same_upd hD
      have o2 : Out Γ Fz1 H1 none0 Fz1 (upd H1 D0 (.lst [])) := Out.same S1.trk S1.tabs sm
      refine ⟨Nat.zero_le _, Fz1, ρ1, L1, [], [D0], o1.trans0 o2, (S1.same sm).agree (wipe_length σ vs) (agW ce), ce, Reps.nil.newL hD, fun a z => ?_, fun a z => ?_, q1, rfl, ik.stay _ _ _ _ _ pp o2 mutS0 fun _ _ z => z, hp⟩
      · have : a = D0 := by simpa using z
        subst this
        exact ⟨fun z => not_trk hD (S1.env.wr _ z).trk, fun z => not_trk hD (S1.trk _ z)⟩
      · rcases z with z | z
        · exact k1 a z
        · have : a = D0 := by simpa using z
          subst this
          exact .inr fun z => not_trk hD (o1.there _ z)
    refine ⟨fun i m Hh => m = ds.length - i ∧ Inv2 i Hh, ⟨_, rfl, start⟩, ?_⟩
    rintro i n H2 ⟨rfl, hi, Fz2, ρ2, L2, acc, LD, o2, S2, ce2, rD, nD, kD, q2, hl2, pp2, h2⟩
    by_cases hlt : i < ds.length
    case neg =>
      have ei : i = ds.length := by omega
      subst ei
      rw [List.drop_length] at h2
      exact .inl ⟨ik.stop _ _ pp2, h2 _ H2 Fz2 L2 LD o2 (S2.agree (wipe_length σ vs).symm fun j p d ej => (agW ce2 j p d ej).symm) rD nD kD q2⟩
    refine .inr ⟨ik.go _ _ _ pp2 hlt, Inv2 (i + 1), fun H' hN => ⟨ds.length - (i + 1), by omega, rfl, hN⟩, fun x H3 y => ?_⟩
    have ed : ds.drop i = ds[i] :: ds.drop (i + 1) := List.drop_eq_getElem_cons hlt
    rw [ed] at h2
    obtain ⟨sm, r⟩ := ik.yld _ _ _ ds[i] x H3 pp2 (List.getElem?_eq_getElem hlt) y
    have o3 : Out Γ Fz2 H2 none0 Fz2 H3 := Out.same S2.trk S2.tabs sm
    have S3 := S2.grow o3
    have pp3 := ik.stay _ _ _ _ _ pp2 o3 mutS0 fun _ _ z => z
    have rD3 := rD.out0 (Bz' := none0) o3 fun _ z => z
    unfold lcL at h2
    cases e4 : t ds[i] ρ2 with
    | none => rw [e4] at h2; exact h2.elim
    | some ρ4 =>
      rw [e4, R.of, R.bind] at h2
      refine gk Fz2 H3 (wipe σ vs) ρ2 L2 x ds[i] [] _ ρ4 S3 r (fun a z => nomatch z) e4 fun σ4 L4 S4 m4 p4 l4 a4 => ⟨?_, Fz2, ρ4, L4, S4, ?_⟩
      · -- the block's own names are forgotten again
        apply List.ext_getElem?
        intro j
        rw [wipe_get, wipe_get, l4, wipe_length]
        by_cases hj : j ∈ vs ∧ j < List.length σ
        · rw [if_pos hj, if_pos hj]
        · rw [if_neg hj, if_neg hj]
          by_cases hv : j ∈ vs
          · rw [List.getElem?_eq_none (by rw [l4, wipe_length]; exact Nat.le_of_not_lt fun z => hj ⟨hv, z⟩), List.getElem?_eq_none (Nat.le_of_not_lt fun z => hj ⟨hv, z⟩)]
          · rw [a4 j fun z => hv (hts j z), wipe_get, if_neg fun z => hv z.1]
      have n4 : ∀ a ∈ L4, a ∈ L2 := fun a z => (m4 a z).elim id fun z => nomatch z
      have nD4 : ∀ a ∈ LD, a ∉ L4 ∧ ¬ Fz2 a := fun a z => ⟨fun u => (nD a z).1 (n4 a u), (nD a z).2⟩
      have o4 := o2.trans0 o3
      have k4 : ∀ a, a ∈ L4 → a ∈ L ∨ ¬ Trk H a := fun a z => kD a (.inl (n4 a z))
      -- pinned slots through the turn
      have pin4 : ∀ ρ5, PinE ρ4 ρ5 → PinE ρ (wipeD ρ5 vs) := fun ρ5 q5 j d ej => by
        obtain ⟨d2, e2⟩ := q2 j d ej
        have hv : j ∉ vs := fun z => by rw [empAt_get ce2 z] at e2; cases e2
        obtain ⟨_, d3, e3⟩ := p4 j d2 e2
        obtain ⟨d5, e5⟩ := q5 j d3 e3
        exact ⟨d5, by rw [wipeD_get, if_neg fun z => hv z.1]; exact e5⟩
      have hl4 : ρ4.length = ρ1.length := by rw [← S4.env.len, l4, wipe_length]; exact hl1
      cases e5 : c ρ4 with
      | stuck => rw [e5] at h2; exact h2
      | exn x => rw [e5] at h2; exact h2.elim
      | ok z5 =>
        obtain ⟨b, ρ5⟩ := z5
        rw [e5, noX, R.bind] at h2
        dsimp only at h2
        intro H5 Fz5 L5 o5 S5 k5 q5
        obtain ⟨rD5, nD5⟩ := tmp_keep S4 o5 rD3 nD4
        have pp5 := ik.stay _ _ _ _ _ pp3 o5 S4.wr fun a z u => S4.dis a u z
        have o45 := o4.transL o5 k4
        have tD3 : ∀ a ∈ LD, Trk H3 a := fun a z => (rD3.wr a z).trk
        have nDL5 : ∀ a ∈ LD, a ∉ L5 ∧ ¬ Fz5 a := fun a z => ⟨fun u => (k5 a u).elim (nD4 a z).1 fun w => w (tD3 a z), nD5 a z⟩
        have k45 : ∀ a, a ∈ L5 → a ∈ L ∨ ¬ Trk H a := fun a z => (k5 a z).elim (k4 a) fun z => .inr fun t => z (o4.there a t)
        have hl5 : ρ5.length = ρ1.length := by rw [← S5.env.len, ← hl4, ← S4.env.len]
        -- from a block's frame to the next turn's
        have next : ∀ {Fz6 : AS} {H6 : Hp} {ρ6 : List Sl} {L6 : List Addr} {acc6 : List D} {L6D : List Addr}, Out Γ Fz H (· ∈ L) Fz6 H6 → Stt Γ Fz6 H6 σ4 ρ6 L6 → Rep Γ Fz6 none0 H6 (.ref D0) (.lst .own acc6) L6D → (∀ a ∈ L6D, a ∉ L6 ∧ ¬ Fz6 a) → (∀ a, a ∈ L6 ∨ a ∈ L6D → a ∈ L ∨ ¬ Trk H a) → PinE ρ4 ρ6 → P Fz6 H6 → Post (lcL t c e vs (ds.drop (i + 1)) acc6 (wipeD ρ6 vs)) → Inv2 (i + 1) H6 := fun {Fz6 H6 ρ6 L6 acc6 L6D} o6 S6 r6 n6 k6 q6 p6 h6 => by
          obtain ⟨L7, S7, m7⟩ := S6.wipe vs
          have hl6 : ρ6.length = ρ1.length := by rw [← S6.env.len, l4, wipe_length]; exact hl1
          have ce7 : empAt (wipeD ρ6 vs) vs = true := empAt_wipeD fun v hv => by rw [hl6]; exact hvl v hv
          refine ⟨hlt, Fz6, wipeD ρ6 vs, L7, acc6, L6D, o6, S7.agree (by rw [wipe_length, l4, wipe_length]) (fun j p d ej => ?_), ce7, r6, fun a z => ⟨fun u => (n6 a z).1 (m7 a u), (n6 a z).2⟩, fun a z => k6 a (z.imp (m7 a) id), pin4 _ q6, by rw [wipeD_len, hl6], p6, h6⟩
          have hv : j ∉ vs := fun z => by rw [empAt_get ce7 z] at ej; cases ej
          exact (a4 j fun z => hv (hts j z)).symm
        cases b with
        | false =>
          rw [if_neg (by decide)] at h2 ⊢
          exact next o45 S5 rD5 nDL5 (fun a z => z.elim (k45 a) fun z => kD a (.inr z)) q5 pp5 h2
        | true =>
          rw [if_pos rfl] at h2 ⊢
          refine ⟨Fz5, ρ5, L5, S5, ?_⟩
          cases e6 : e ρ5 with
          | stuck => rw [e6] at h2; exact h2
          | exn x => rw [e6] at h2; exact h2.elim
          | ok z6 =>
            obtain ⟨d6, ρ6⟩ := z6
            rw [e6, noX, R.bind] at h2
            dsimp only at h2
            intro v6 H6 Fz6 L6 Ld6 o6 S6 r6 n6 k6 q6
            by_cases hsz : acc.length < 16777216
            case neg => rw [if_neg hsz] at h2; exact h2.elim
            rw [if_pos hsz] at h2
            obtain ⟨rD6, nD6⟩ := tmp_keep S5 o6 rD5 nDL5
            have pp6 := ik.stay _ _ _ _ _ pp5 o6 S5.wr fun a z u => S5.dis a u z
            have tD5 : ∀ a ∈ LD, Trk H5 a := fun a z => (rD5.wr a z).trk
            have nDL6 : ∀ a ∈ LD, a ∉ L6 ∧ ¬ Fz6 a ∧ a ∉ Ld6 := fun a z => ⟨fun u => (k6 a (.inl u)).elim (nDL5 a z).1 fun w => w (tD5 a z), nD6 a z, fun u => (k6 a (.inr u)).elim (nDL5 a z).1 fun w => w (tD5 a z)⟩
            obtain ⟨a0, ws, La, ea, g1, g2, g3, gL⟩ := lst_own rD6
            cases ea
            have o56 := o45.transL o6 fun c z => k45 c z
            have k56 : ∀ a, a ∈ L6 ∨ a ∈ Ld6 → a ∈ L ∨ ¬ Trk H a := fun a z => (k6 a z).elim (k45 a) fun z => .inr fun t => z (o45.there a t)
            have hD0 : D0 ∈ LD := by rw [gL]; exact List.mem_cons_self
            refine ⟨ws, g1, by rw [g2.len, PySem.sizeLine_eq]; exact hsz, ?_⟩
            obtain ⟨S7, o7, mu7⟩ := S6.upd_tmp (o := .lst (ws ++ [v6])) (nDL6 _ hD0).1 (nDL6 _ hD0).2.1 g1 True.intro (fun φ z => by cases z) True.intro
            have g2' := g2.upd_at (o := .lst (ws ++ [v6])) g1 True.intro g3 (nDL6 _ hD0).2.1 id
            have r6' := (Reps.cons (L1 := Ld6) (L2 := []) r6 .nil (fun _ _ z => nomatch z) rfl).upd_at (o := .lst (ws ++ [v6])) g1 True.intro (by simpa using (nDL6 _ hD0).2.2) (nDL6 _ hD0).2.1 id
            have dj : ∀ a ∈ La, a ∉ Ld6 ++ [] := fun a z u => (nDL6 a (by rw [gL]; exact List.mem_cons_of_mem _ z)).2.2 (by simpa using u)
            have hnm : D0 ∉ La ++ (Ld6 ++ []) := fun z => (List.mem_append.mp z).elim g3 fun z => (nDL6 _ hD0).2.2 (by simpa using z)
            have all : ∀ a ∈ D0 :: (La ++ (Ld6 ++ [])), a ∈ LD ∨ a ∈ Ld6 := fun a z => by
              rcases List.mem_cons.mp z with z | z
              · exact .inl (z ▸ hD0)
              · rcases List.mem_append.mp z with z | z
                · exact .inl (by rw [gL]; exact List.mem_cons_of_mem _ z)
                · exact .inr (by simpa using z)
            have o57 : Out Γ Fz H (· ∈ L) Fz6 (upd H6 D0 (.lst (ws ++ [v6]))) := o56.trans o7 fun c z => by
              have z' : c = D0 := z
              subst z'
              exact kD _ (.inr hD0)
            refine next o57 S7 (.lstO upd_same (Reps.app g2' r6' dj) hnm) (fun a z => ?_) (fun a z => ?_) (q5.trans q6) (ik.stay _ _ _ _ _ pp6 o7 mu7 fun a z u => ?_) h2
            · rcases all a z with u | u
              · exact ⟨(nDL6 a u).1, (nDL6 a u).2.1⟩
              · exact n6 a u
            · rcases z with z | z
              · exact k56 a (.inl z)
              · rcases all a z with u | u
                · exact kD a (.inr u)
                · exact k56 a (.inr u)
            · have u' : a = D0 := u
              subst u'
              exact (nDL6 _ hD0).2.1 z
end
end DL

namespace DL
open PySem PySem.Spec L2
abbrev W0 : WX := fun _ _ _ _ => False
section
variable {Γ : Gm} {W : WX} {X : Cx} {im : Im} {tg iter elt : Expr} {ifs : List Expr} {scope : Scope} {own : List (Str × Nat)} {pos spos py : Pos} {t : Tg} {ts : List Nat} {c : Eb} {e m mk : Em} {g : TG} {i : Nat} {y : Str}
theorem rts_nil : PTs X [] (tET Γ W eT) := ⟨fun pins s σ H Q I h => pts_nil.run pins s σ H Q I (by
  obtain ⟨Fz, ρ, L, S, h⟩ := h
  exact h H Fz L (.refl S.trk S.tabs) S (fun a z => .inl z) (.refl ρ))⟩
theorem rts_one {cc : Expr} (h : PT X cc (tET Γ W c)) : PTs X [cc] (tET Γ W c) := pts_one h
theorem re_lc (hc : X.calm = true) (hN : X.N.Nodup) (hi : PI X tg iter (tI Γ W im)) (ok : BlkOk X.N X.env.scope scope own) (gk : GOk Γ g t ts) (hts : ∀ j ∈ ts, j ∈ own.map (·.2))
    (hg : ∀ (s : Shared) (H : Hp) (C : Addr) (cl : List (Str × Addr)) (fp : List Addr), PG (X.blk s H scope (compEnvC scope cl C X.env) fp) tg g)
    (ht : ∀ (s : Shared) (H : Hp) (C : Addr) (cl : List (Str × Addr)) (fp : List Addr), PTs (X.blk s H scope (compEnvC scope cl C X.env) fp) ifs (tET Γ W0 c))
    (he : ∀ (s : Shared) (H : Hp) (C : Addr) (cl : List (Str × Addr)) (fp : List Addr), PE (X.blk s H scope (compEnvC scope cl C X.env) fp) elt (tE Γ W0 e)) (hs : ∀ x, foldedSetIterable iter X.env x = pure x := by intro _; rfl) :
    PE X (.ListComp elt [⟨tg, iter, ifs, 0⟩] scope pos) (tE Γ W (eLc im (own.map (·.2)) t c e)) :=
  PEi (pe_lc hc hN hi ok hg ht he hs) fun _ _ _ h => imp_lc gk hts h
theorem imp_set {te : TE} {D : Ends} {σ : L2.St} {H : Hp} (h : tS Γ W (sSet i m) D σ H) (hm : ∀ Q, tE Γ W m σ H Q → te σ H Q) : tAsg te (gName i) D σ H := by
  obtain ⟨Fz, ρ, L, S, h⟩ := h
  unfold sSet at h
  refine hm _ ⟨Fz, ρ, L, S, ?_⟩
  cases e1 : m ρ with
  | stuck => rw [e1] at h; exact h
  | exn x => rw [e1] at h; intro cls dx H' Fz' o xr; exact h cls dx σ H' Fz' o xr
  | ok z1 =>
    obtain ⟨d, ρ1⟩ := z1
    rw [e1, R.bind] at h
    dsimp only at h
    intro v1 H1 Fz1 L1 Ld1 o1 S1 r1 n1 k1 q1
    cases e2 : ρ1[i]? with
    | none => rw [e2] at h; exact h.elim
    | some sl =>
      have hl : i < ρ1.length := (List.getElem?_eq_some_iff.mp e2).1
      rw [e2] at h
      cases sl with
      | emp => exact set_out (Q := D.nx) o1 S1 r1 n1 k1 q1 hl (fun d z => by rw [e2] at z; cases z) h
      | val p d' =>
        cases p with
        | true => exact h.elim
        | false => exact set_out (Q := D.nx) o1 S1 r1 n1 k1 q1 hl (fun d z => by rw [e2] at z; cases z) h
theorem rs_setLc (hc : X.calm = true) (hN : X.N.Nodup) (hyl : X.env.scope.names.lookup y = some .local) (hsw : swapsWith (.ListComp elt [⟨tg, iter, ifs, 0⟩] scope pos) (some (.Name y py)) spos.line X.env = pure true) (hi : PI X tg iter (tI Γ W im)) (ok : BlkOk X.N X.env.scope scope own) (gk : GOk Γ g t ts) (hts : ∀ j ∈ ts, j ∈ own.map (·.2))
    (hg : ∀ (s : Shared) (H : Hp) (C : Addr) (cl : List (Str × Addr)) (fp : List Addr), PG (X.blk s H scope (compEnvC scope cl C X.env) fp) tg g)
    (ht : ∀ (s : Shared) (H : Hp) (C : Addr) (cl : List (Str × Addr)) (fp : List Addr), PTs (X.blk s H scope (compEnvC scope cl C X.env) fp) ifs (tET Γ W0 c))
    (he : ∀ (s : Shared) (H : Hp) (C : Addr) (cl : List (Str × Addr)) (fp : List Addr), PE (X.blk s H scope (compEnvC scope cl C X.env) fp) elt (tE Γ W0 e)) (hy : X.N[i]? = some y := by rfl) (hs : ∀ x, foldedSetIterable iter X.env x = pure x := by intro _; rfl) :
    PS X (.Assign [.Name y py] (.ListComp elt [⟨tg, iter, ifs, 0⟩] scope pos) spos) (tS Γ W (sSet i (eLc im (own.map (·.2)) t c e))) :=
  PSi (ps_setLc hc hN hy hyl hsw hi ok hg ht he hs) fun _ _ _ h => imp_set h fun _ q => imp_lc gk hts q

/-! ### freezing: a slot's data, a value -/
/-- all of the value is shared from here on -/
def eShr (m : Em) : Em := fun ρ => (m ρ).bind fun x => .ok (x.1.tag toShr, x.2)
theorem re_shr {ex : Expr} (h : PE X ex (tE Γ W m)) : PE X ex (tE Γ W (eShr m)) := by
  refine PEi h fun σ H Q h => ?_
  obtain ⟨Fz, ρ, L, S, h⟩ := h
  unfold eShr at h
  refine ⟨Fz, ρ, L, S, ?_⟩
  cases e1 : m ρ with
  | stuck => rw [e1] at h; exact h
  | exn x => rw [e1] at h; exact h
  | ok z1 =>
    obtain ⟨d, ρ1⟩ := z1
    rw [e1, R.bind] at h
    intro v H1 Fz1 L1 Ld o1 S1 r1 n1 k1 q1
    have tr : ∀ a ∈ Ld, Trk H1 a := fun a z => (r1.wr a z).trk
    exact h v H1 _ L1 [] (o1.freeze (fun a z => k1 a (.inr z)) tr) (S1.freeze (fun a z => (n1 a z).1) tr) r1.share (fun a z => nomatch z) (fun a z => k1 a (z.imp id fun z => nomatch z)) q1
/-- slot i is shared -/
def frz (i : Nat) (ρ : List Sl) : List Sl := match ρ[i]? with
  | some (.val p d) => ρ.set i (.val p (d.tag toShr))
  | _ => ρ
def frzs : List Nat → List Sl → List Sl
  | [], ρ => ρ
  | i :: is, ρ => frzs is (frz i ρ)
theorem Stt.frz {Fz : AS} {H : Hp} {σ : L2.St} {ρ : List Sl} {L : List Addr} (S : Stt Γ Fz H σ ρ L) (i : Nat) : ∃ Fz' L', Stt Γ Fz' H σ (frz i ρ) L' ∧ Out Γ Fz H (· ∈ L) Fz' H ∧ (∀ a ∈ L', a ∈ L) := by
  unfold DL.frz
  cases e : ρ[i]? with
  | none => exact ⟨Fz, L, S, .refl S.trk S.tabs, fun _ z => z⟩
  | some sl =>
    cases sl with
    | emp => exact ⟨Fz, L, S, .refl S.trk S.tabs, fun _ z => z⟩
    | val p d =>
      obtain ⟨v, Li, Lr, h1, h2, h3, h4, h5⟩ := S.env.take e
      have il : i < ρ.length := (List.getElem?_eq_some_iff.mp e).1
      have tr : ∀ a ∈ Li, Trk H a := fun a z => (h2.wr a z).trk
      have S5 : Stt Γ Fz H σ (ρ.set i .emp) Lr := ⟨h5, fun a z => S.dis a ((h3 a).mpr (.inr z)), S.trk, S.tabs⟩
      have S6 := S5.freeze (Ld := Li) (fun a z => h4 a z) tr
      obtain ⟨L', e5, e6⟩ := S6.env.put (i := i) (v := v) p (by simp [il]) h1 h2.share fun a z => nomatch z
      rw [List.set_set] at e6
      have mm : ∀ a ∈ L', a ∈ Lr := fun a z => ((e5 a).mp z).elim (fun z => nomatch z) id
      exact ⟨_, L', ⟨e6, fun a z => S6.dis a (mm a z), S6.trk, S6.tabs⟩, (Out.refl S.trk S.tabs).freeze (fun a z => .inl ((h3 a).mpr (.inl z))) tr, fun a z => (h3 a).mpr (.inr (mm a z))⟩
theorem pins_frz (i : Nat) (ρ : List Sl) : PinE ρ (frz i ρ) := fun j d e => by
  unfold frz
  cases e1 : ρ[i]? with
  | none => exact ⟨d, e⟩
  | some sl =>
    cases sl with
    | emp => exact ⟨d, e⟩
    | val p d1 =>
      by_cases ij : i = j
      · subst ij
        rw [e1] at e
        cases e
        exact ⟨_, List.getElem?_set_self (List.getElem?_eq_some_iff.mp e1).1⟩
      · exact ⟨d, by rw [List.getElem?_set_ne ij]; exact e⟩
/-- slots are shared ahead of a statement -/
def sFrz (is : List Nat) (m : Sm) : Sm := fun ρ => m (frzs is ρ)
theorem rs_frz {st : Stmt} {s : Sm} (is : List Nat) (h : PS X st (tS Γ W s)) : PS X st (tS Γ W (sFrz is s)) := by
  refine PSi h fun D σ H q => ?_
  obtain ⟨Fz, ρ, L, S, q⟩ := q
  unfold sFrz at q
  have go : ∀ (is : List Nat) (ρ1 : List Sl) (Fz1 : AS) (L1 : List Addr), Stt Γ Fz1 H σ ρ1 L1 → Out Γ Fz H (· ∈ L) Fz1 H → (∀ a ∈ L1, a ∈ L) → PinE ρ ρ1 → SPost Γ W Fz H L ρ σ D (s (frzs is ρ1)) → tS Γ W s D σ H := by
    intro is
    induction is with
    | nil => intro ρ1 Fz1 L1 S1 o1 k1 p1 h1; exact tS_after S1 o1 (fun a z => .inl (k1 a z)) (p1.pins σ) h1
    | cons i is ih =>
      intro ρ1 Fz1 L1 S1 o1 k1 p1 h1
      obtain ⟨Fz2, L2, S2, o2, k2⟩ := S1.frz i
      exact ih (frz i ρ1) Fz2 L2 S2 (o1.transL o2 fun c z => .inl (k1 c z)) (fun a z => k1 a (k2 a z)) (p1.trans (pins_frz i ρ1)) h1
  exact go is ρ Fz L S (.refl S.trk S.tabs) (fun _ z => z) (.refl ρ) q

/-! ### x += e, o[i] += e -/
theorem rs_aug {op : Operator} {f : D → D → Option D} {ex : Expr} {pos' : Pos} (hN : X.N.Nodup) (hx : Loc X.env.scope y) (he : PE X ex (tE Γ W m)) (ho : OpR X (inplaceOp op) (rD2 Γ f)) (hi : X.N[i]? = some y := by rfl) (hf : X.fn y = true ∨ X.env.scope.names.lookup y = some .local := by first | exact .inl rfl | exact .inr rfl) :
    PS X (.AugAssign (.Name y pos') op ex pos) (tS Γ W (sAug i f m)) := by
  refine PSi (ps_aug (ti := rD2 Γ f) hN hi hx he (fun pins s σ H x y v u Q I r1 r2 h => ho pins s σ H x y v u Q I r1 r2 h) hf) fun D σ H h => ?_
  obtain ⟨Fz, ρ, L, S, h⟩ := h
  unfold sAug at h
  cases e0 : ρ[i]? with
  | none => rw [e0] at h; exact h.elim
  | some sl =>
  cases sl with
  | emp => rw [e0] at h; exact h.elim
  | val p d0 =>
  rw [e0] at h
  dsimp only at h
  by_cases c : closed d0 = true
  case neg => rw [if_neg c] at h; exact h.elim
  rw [if_pos c] at h
  obtain ⟨v, Li, Lr, h1, h2, h3, h4, h5⟩ := S.env.take e0
  have eLi := closed_nil h2 c
  subst eLi
  refine ⟨v, h1, Fz, ρ, L, S, ?_⟩
  cases e1 : m ρ with
  | stuck => rw [e1] at h; exact h
  | exn x => rw [e1] at h; intro cls dx H' Fz' o xr; exact h cls dx σ H' Fz' o xr
  | ok z1 =>
    obtain ⟨d, ρ1⟩ := z1
    rw [e1, R.bind] at h
    dsimp only at h
    intro v1 H1 Fz1 L1 Ld1 o1 S1 r1 n1 k1 q1
    have h2' : Rep Γ Fz1 none0 H1 v d0 [] := h2.out o1 S.wr (fun a h z => S.dis a z h) (fun b z => z.elim) fun a z => nomatch z
    refine ⟨Fz1, none0, d0, d, [], Ld1, h2', r1, (fun a z => nomatch z), ?_⟩
    cases e2 : f d0 d with
    | none => rw [e2] at h; exact h.elim
    | some dd =>
      rw [e2] at h
      intro z H' Ld sm rz nz
      have o2 := o1.trans0 (Out.same (M := none0) S1.trk S1.tabs sm)
      have S2 := S1.same sm
      have hh : SPost Γ W Fz H L ρ σ D (sSet i (fun ρ => .ok (dd, ρ)) ρ1) := h
      unfold sSet at hh
      dsimp only [R.bind] at hh
      have nL : ∀ a ∈ Ld, a ∉ L1 ∧ ¬ Fz1 a := fun a ha => by
        rcases nz a ha with q | q | q
        · cases q
        · exact n1 a q
        · exact ⟨fun z => not_trk q (S1.env.wr a z).trk, fun z => not_trk q (S1.trk a z)⟩
      have kL : ∀ a, a ∈ L1 ∨ a ∈ Ld → a ∈ L ∨ ¬ Trk H a := fun a ha => by
        rcases ha with ha | ha
        · exact k1 a (.inl ha)
        · rcases nz a ha with q | q | q
          · cases q
          · exact k1 a (.inr q)
          · exact .inr fun t => not_trk q (o1.there a t)
      cases e3 : ρ1[i]? with
      | none => rw [e3] at hh; exact hh.elim
      | some sl =>
        have hl : i < ρ1.length := (List.getElem?_eq_some_iff.mp e3).1
        rw [e3] at hh
        cases sl with
        | emp => exact set_out (Q := D.nx) o2 S2 rz nL kL q1 hl (fun d z => by rw [e3] at z; cases z) hh
        | val p d' =>
          cases p with
          | true => exact hh.elim
          | false => exact set_out (Q := D.nx) o2 S2 rz nL kL q1 hl (fun d z => by rw [e3] at z; cases z) hh
/-- o[i] by values -/
def dIxL : D → D → Option D := fun a i => match a, i with
  | .lst _ xs, .int i => atI xs i
  | _, _ => none
theorem pg_list (hK : X.K = Γ.K) : PGet X (rD2 Γ dIxL) := by
  intro pins s σ H o iv ov ivv Q I ro ri q
  obtain ⟨Fz, Bz, d1, d2, L1, L2, r1, r2, s12, q⟩ := q
  cases d2 <;> first | (cases d1 <;> exact q.elim) | skip
  rename_i k
  have ey := r2.int_v.1
  subst ey
  cases d1 <;> first | exact q.elim | skip
  case lst f xs =>
    obtain ⟨a, vs, La, rfl, h1, h2, h3⟩ := r1.lst_r
    have q' : match atI xs k with | some d => _ | none => False := q
    cases e : atI xs k with
    | none => rw [e] at q'; exact q'.elim
    | some d =>
      rw [e] at q'
      obtain ⟨w, Lj, e1, e2, e3⟩ := h2.at e
      have q2 := q' w H Lj Same.refl' e2 fun b z => .inl (h3 b (e3 b z))
      cases ro
      obtain ⟨tk, rfl⟩ := ri
      obtain ⟨its, rr, pl, hz⟩ := I.list (by rw [hK]; exact h1)
      obtain ⟨j, g1, g2, g3, g4, g5⟩ := atI_get e1
      obtain ⟨ww, ew, rw'⟩ := rr.get g2
      have hl := rr.length
      have hn := line63
      have fin : EP X pins σ Q ww s := ⟨w, H, I, rw', q2⟩
      by_cases h0 : 0 ≤ k
      · have hj : k.toNat = j := by
          rw [seqIndex_of h0 g5] at g1
          exact Option.some.inj g1
        exact wpAny_getItem_list pl.isList h0 (by omega) (by rw [hj]; simpa using ew) fin
      · have hj : (k + (its.toArray.size : Int)).toNat = j := by
          rw [seqIndex_neg (by omega) g4] at g1
          rw [List.size_toArray, ← hl]
          exact Option.some.inj g1
        exact wpAny_getItem_list_neg pl.isList (by omega) (by rw [List.size_toArray] <;> omega) (by omega) (by rw [hj]; simpa using ew) fin
end
end DL

namespace DL
open PySem PySem.Spec L2
section
variable {Γ : Gm} {W : WX} {X : Cx} {m mk : Em} {i : Nat} {y : Str} {pos tpos py : Pos}
theorem rs_augsub {op : Operator} {g f : D → D → Option D} {h3' : D → D → D → Option D} {ek ex : Expr} (hg : PGet X (rD2 Γ g)) (ho : OpR X (inplaceOp op) (rD2 Γ f)) (hs : PSet X (rDSet Γ h3')) (hk : PE X ek (tE Γ W mk)) (he : PE X ex (tE Γ W m)) (hN : X.N[i]? = some y := by rfl) (hv : Vis X.env.scope y := by first | exact Or.inl rfl | exact Or.inr (Or.inl rfl) | exact Or.inr (Or.inr rfl)) (hd : (y == ("__debug__" : Str)) = false := by decide) (hcd : (y == ("__classdict__" : Str)) = false := by decide)
    (ha : ∀ ov iv new, augStore ek ov iv new = (do holding [new, ov, iv] (setItem ov iv new); release [new, ov, iv] []; pure .next) := by intros; rfl) :
    PS X (.AugAssign (.Subscript (.Name y py) ek tpos) op ex pos) (tS Γ W (sAugSub i g f h3' mk m)) := by
  refine PSi (ps_augS (pe_var hN hv hd hcd) hk hg he (tip := rD2 Γ f) (fun pins s σ H x y v u Q I r1 r2 h => ho pins s σ H x y v u Q I r1 r2 h) hs ha) fun D σ H h => ?_
  obtain ⟨Fz, ρ, L, S, h⟩ := h
  unfold sAugSub at h
  cases e0 : ρ[i]? with
  | none => rw [e0] at h; exact h.elim
  | some sl =>
  cases sl with
  | emp => rw [e0] at h; exact h.elim
  | val p dd0 =>
  rw [e0] at h
  dsimp only at h
  obtain ⟨v0, _, _, hv0, _⟩ := S.env.take e0
  refine ⟨v0, hv0, Fz, ρ, L, S, ?_⟩
  cases e1 : mk ρ with
  | stuck => rw [e1] at h; exact h
  | exn x => rw [e1] at h; intro cls dx H' Fz' o xr; exact h cls dx σ H' Fz' o xr
  | ok z1 =>
    obtain ⟨k, ρ1⟩ := z1
    rw [e1, R.bind] at h
    dsimp only at h
    intro kv H1 Fz1 L1 Lk o1 S1 r1 n1 k1 q1
    cases e2 : ρ1[i]? with
    | none => rw [e2] at h; exact h.elim
    | some sl =>
    cases sl with
    | emp => rw [e2] at h; exact h.elim
    | val p1 d0 =>
    rw [e2] at h
    dsimp only at h
    by_cases ck : closed k = true
    case neg => rw [if_neg ck] at h; exact h.elim
    rw [if_pos ck] at h
    have ek' := closed_nil r1 ck
    subst ek'
    obtain ⟨v, Li, Lr, h1, h2, h3, h4, h5⟩ := S1.env.take e2
    rw [hv0] at h1
    cases h1
    refine ⟨Fz1, none0, d0, k, Li, [], h2, r1, (fun a _ z => nomatch z), ?_⟩
    cases e3 : g d0 k with
    | none => rw [e3] at h; exact h.elim
    | some d1 =>
      rw [e3] at h
      dsimp only at h
      by_cases c1 : closed d1 = true
      case neg => rw [if_neg c1] at h; exact h.elim
      rw [if_pos c1] at h
      intro z1 H1' Ld1 sm rz1 nz1
      have ed1 := closed_nil rz1 c1
      subst ed1
      have oS : Out Γ Fz1 H1 none0 Fz1 H1' := Out.same S1.trk S1.tabs sm
      have S1' := S1.same sm
      have o1' := o1.trans0 oS
      have r1'' : Rep Γ Fz1 none0 H1' kv k [] := r1.out0 oS fun _ z => z
      refine ⟨Fz1, ρ1, L1, S1', ?_⟩
      cases e4 : m ρ1 with
      | stuck => rw [e4] at h; exact h
      | exn x => rw [e4] at h; intro cls dx H' Fz' o xr; exact h cls dx σ H' Fz' (o1'.transL o fun c z => k1 c (.inl z)) xr
      | ok z4 =>
        obtain ⟨x, ρ2⟩ := z4
        rw [e4, R.bind] at h
        dsimp only at h
        intro xv H2 Fz2 L2 Lx o2 S2 r2 n2 k2 q2
        have sc : ∀ {v d}, Rep Γ Fz1 none0 H1' v d [] → Rep Γ Fz2 none0 H2 v d [] := fun r => r.out o2 S1'.wr (fun a h z => S1'.dis a z h) (fun b z => z.elim) fun a z => nomatch z
        have o := o1'.transL o2 fun c z => k1 c (.inl z)
        have back : ∀ a, a ∈ L1 ∨ ¬ Trk H1' a → a ∈ L ∨ ¬ Trk H a := fun a z => z.elim (fun z => k1 a (.inl z)) fun z => .inr fun t => z (o1'.there a t)
        refine ⟨Fz2, none0, d1, x, [], Lx, sc rz1, r2, (fun a z => nomatch z), ?_⟩
        cases e5 : f d1 x with
        | none => rw [e5] at h; exact h.elim
        | some d2 =>
          rw [e5] at h
          dsimp only at h
          intro z2 H3 Ld2 sm2 rz2 nz2
          have oS2 : Out Γ Fz2 H2 none0 Fz2 H3 := Out.same S2.trk S2.tabs sm2
          have S3 := S2.same sm2
          have o3 := o.trans0 oS2
          have kk : Rep Γ Fz2 none0 H3 kv k [] := (sc r1'').out0 oS2 fun _ z => z
          have nD : ∀ a ∈ Ld2, a ∉ L2 ∧ ¬ Fz2 a := fun a ha => by
            rcases nz2 a ha with q | q | q
            · cases q
            · exact n2 a q
            · exact ⟨fun z => not_trk q (S2.env.wr a z).trk, fun z => not_trk q (S2.trk a z)⟩
          have kD : ∀ a, a ∈ L2 ∨ a ∈ Ld2 → a ∈ L ∨ ¬ Trk H a := fun a ha => by
            rcases ha with ha | ha
            · exact back a (k2 a (.inl ha))
            · rcases nz2 a ha with q | q | q
              · cases q
              · exact back a (k2 a (.inr q))
              · exact .inr fun t => not_trk q (o.there a t)
          cases e6 : ρ2[i]? with
          | none => rw [e6] at h; exact h.elim
          | some sl =>
          cases sl with
          | emp => rw [e6] at h; exact h.elim
          | val pp d00 =>
          rw [e6] at h
          dsimp only at h
          obtain ⟨v, Li, Lr, h1, h2, h3, h4, h5⟩ := S3.env.take e6
          rw [hv0] at h1
          cases h1
          refine ⟨Fz2, d00, k, d2, Li, [], Ld2, h2, kk, rz2, fun a ha => ⟨(fun z => nomatch z), fun z => (nD a z).1 ((h3 a).mpr (.inl ha)), S3.dis a ((h3 a).mpr (.inl ha))⟩, ?_⟩
          cases e7 : h3' d00 k d2 with
          | none => rw [e7] at h; exact h.elim
          | some d' =>
            rw [e7] at h
            intro a ob L' ha mo nx r' s'
            exact mut_end (Ld := Ld2) (Q := D.nx) o3 S3 e6 hv0 h3 h4 h5 nD kD (q1.trans q2) h ha mo nx r' s'

/-! ### enumerate -/
def enumD : Nat → List D → List D
  | _, [] => []
  | n, x :: xs => .tup [.int n, x] :: enumD (n + 1) xs
theorem enumD_get : ∀ (n : Nat) (xs : List D) (j : Nat), (enumD n xs)[j]? = (xs[j]?).map fun x => .tup [.int ((n + j : Nat) : Int), x]
  | n, [], j => by simp [enumD]
  | n, x :: xs, 0 => by simp [enumD]
  | n, x :: xs, j + 1 => by
    have ih := enumD_get (n + 1) xs j
    simp only [enumD, List.getElem?_cons_succ, ih]
    have e : n + 1 + j = n + (j + 1) := by omega
    rw [e]
theorem enumD_len (n : Nat) (xs : List D) : (enumD n xs).length = xs.length := by
  induction xs generalizing n with
  | nil => rfl
  | cons x xs ih => simp [enumD, ih]
theorem ite_ok (hK : X.K = Γ.K) {a : Addr} {ds : List D} : ItOk Γ (Ite X.K a) (enumD 0 ds) (PLst Γ a ds) where
  stay := PLst.stay
  go := fun Fz H i ⟨vs, h1, h2⟩ hi => by
    rw [enumD_len] at hi
    exact ⟨vs, vs[i]'(by rw [h2.len]; exact hi), by rw [hK]; exact PLst.sq h1, List.getElem?_eq_getElem _⟩
  yld := fun Fz H i d x H' ⟨vs, h1, h2⟩ e yy => by
    obtain ⟨T, w, rfl, hT, rfl, fx⟩ := yy
    rw [enumD_get] at e
    cases e1 : ds[i]? with
    | none => rw [e1] at e; cases e
    | some d1 =>
      rw [e1] at e
      cases e
      obtain ⟨v, Lj, e2, r, s⟩ := h2.get e1
      have := fx vs (by rw [hK]; exact PLst.sq h1)
      rw [e2] at this
      cases this
      have := nil_of s
      subst this
      refine ⟨same_upd hT, ?_⟩
      have rr : Reps Γ Fz none0 H [V.int (i : Nat), w] [.int ((0 + i : Nat) : Int), d1] [] := .cons (L1 := []) (L2 := []) (by rw [Nat.zero_add]; exact .int _) (.cons (L1 := []) (L2 := []) r .nil (fun _ _ z => nomatch z) rfl) (fun _ _ z => nomatch z) rfl
      exact rr.newT hT
  stop := fun Fz H ⟨vs, h1, h2⟩ => ⟨vs, by rw [hK]; exact PLst.sq h1, by rw [h2.len, enumD_len]; exact Nat.le_refl _⟩
def iEnu (m : Em) : Im := fun ρ => (m ρ).bind fun x => match x.1 with
  | .lst _ xs => .ok (enumD 0 (D.tagL toShr xs), x.2)
  | _ => .stuck
theorem ri_enum {e : Expr} {p : Pos} {elts : List Expr} {kk : Nat} (hK : X.K = Γ.K) (hm : X.mg "enumerate" = none) (h : PE X e (tE Γ W m)) (hg : Gl X "enumerate" := by rfl) (hs : starEach [e] X.env = [(false, eval e X.env)] := by rfl) : PI X (.Tuple elts kk tpos) (.Call (.Name "enumerate" p) [e] [] pos) (tI Γ W (iEnu m)) := by
  refine ⟨fun pins s σ H R I q => (pi_enum (elts := elts) (kk := kk) (tpos := tpos) hg hm (pa_cons h pa_nil hs) hs).run pins s σ H R I ?_⟩
  obtain ⟨Fz, ρ, L, S, q⟩ := q
  unfold iEnu at q
  refine ⟨Fz, ρ, L, S, ?_⟩
  cases e1 : m ρ with
  | stuck => rw [e1] at q; exact q
  | exn x => rw [e1] at q; exact q
  | ok z1 =>
    obtain ⟨d, ρ1⟩ := z1
    rw [e1, R.bind] at q
    intro v H1 Fz1 L1 Ld o1 S1 r1 n1 k1 q1
    cases d <;> first | exact q.elim | skip
    case lst f xs =>
      dsimp only at q
      have tr : ∀ a ∈ Ld, Trk H1 a := fun a z => (r1.wr a z).trk
      have rs := r1.share
      unfold D.tag at rs
      have go : ∀ a vs, (ShL (fun b => Fz1 b ∨ b ∈ Ld) H1 a vs ∨ KoL Γ H1 a vs) → Reps Γ (fun b => Fz1 b ∨ b ∈ Ld) none0 H1 vs (D.tagL toShr xs) [] → ∃ a' zs, [V.ref a] = [V.ref a'] ∧ SqL X.K H1 a' zs ∧ R (Ite X.K a') H1 := fun a vs h1 h2 =>
        ⟨a, vs, rfl, by rw [hK]; exact PLst.sq h1, q (Ite X.K a) H1 _ L1 (PLst Γ a (D.tagL toShr xs)) (o1.freeze (fun a z => k1 a (.inr z)) tr) (S1.freeze (fun a z => (n1 a z).1) tr) (fun b z => k1 b (.inl z)) q1 (ite_ok hK) ⟨vs, h1, h2⟩⟩
      cases f with
      | kon => cases rs with
        | lstS hf h r => cases hf
        | lstK h r => exact go _ _ (.inr h) r
      | own => cases rs with
        | lstS hf h r => exact go _ _ (.inl h) r
      | shr => cases rs with
        | lstS hf h r => exact go _ _ (.inl h) r
      | bor => cases rs with
        | lstS hf h r => exact go _ _ (.inl h) r
theorem ri_revR {a : Expr} {p pr : Pos} {tg : Expr} (hmr : X.mg "reversed" = none) (hm : X.mg "range" = none) (h : PE X a (tE Γ W m)) (hgr : Gl X "reversed" := by rfl) (hg : Gl X "range" := by rfl) (na : starEach [a] X.env = (false, eval a X.env) :: starEach [] X.env := by rfl)
    (hs : starEach [.Call (.Name "range" pr) [a] [] tpos] X.env = (false, eval (.Call (.Name "range" pr) [a] [] tpos) X.env) :: starEach [] X.env := by rfl) : PI X tg (.Call (.Name "reversed" p) [.Call (.Name "range" pr) [a] [] tpos] [] pos) (tI Γ W (iRevR m)) := by
  refine ⟨fun pins s σ H R I q => (pi_revR (tg := tg) hgr hmr (prg_1 hg hm h na) hs).run pins s σ H R I ?_⟩
  obtain ⟨Fz, ρ, L, S, q⟩ := q
  unfold iRevR at q
  refine ⟨Fz, ρ, L, S, ?_⟩
  cases e1 : m ρ with
  | stuck => rw [e1] at q; exact q
  | exn x => rw [e1] at q; exact q
  | ok z1 =>
    obtain ⟨d, ρ1⟩ := z1
    rw [e1, R.bind] at q
    intro v H1 Fz1 L1 Ld o1 S1 r1 n1 k1 q1
    cases d <;> first | exact q.elim | skip
    case int j =>
      dsimp only at q
      by_cases c : -4611686018427387904 ≤ j ∧ j < 4611686018427387904
      case neg => rw [if_neg c] at q; exact q.elim
      rw [if_pos c] at q
      refine ⟨j, r1.int_v.1, by omega, by omega, by omega, by omega, ?_⟩
      have e : (0 : Int) + (((j - 0).toNat : Nat) : Int) - 1 = (j.toNat : Int) - 1 := by rw [Int.sub_zero]; omega
      rw [e, Int.sub_zero]
      exact q (Itc ((j.toNat : Int) - 1) (-1) j.toNat) H1 Fz1 L1 (fun _ _ => True) o1 S1 (fun b z => k1 b (.inl z)) q1 itc_ok True.intro
end

/-! ### a def of the text, with its body's program -/
section
variable {Γ : Gm} {P : Program} {w : World} {mg : Str → Option Value} {base : Heap}
theorem fnD_mk {x qual : Str} {st : Stmt} {f : Addr} {fd : FuncData} {N ps : List Str} {k n : Nat} {mu : List Bool} {b : Sm} (F : Fun Γ.K x qual st f fd) (S : FnScope N ps (defScope st)) (hps : ps.length = mu.length) (hN : N.length = mu.length + n) (hb : Binds Γ.K fd ps []) (hm : mg x = some (.ref f))
    (body : ∀ (cdv : Value) (A : Around) (outer : List Env) (s : Shared) (H : Hp) (E : XK), Room k (A.deeper (PyProof.Rows.envOfC qual (defScope st) s.heap.objs.size f cdv)) → PSs (cxOf (L2.CX P w) P w Γ.K mg base N qual (defScope st) f cdv A outer s H E) (defBody st) (tS Γ (fun cls d _ H => E cls d H) b)) :
    FnD P w Γ.K mg base Γ (k + 1) x mu mu.length (bodyG mu n b) := by
  refine ⟨f, fd, ps, F.okX S (fun vs H Q E h => by rw [h.1, hps]) (fun cdv A outer s H vs Q E hr h => ⟨_, body cdv A outer s H E hr, body_ok hN h⟩), hm, F.kp, hb⟩
end
end DL

namespace DL
open PySem PySem.Spec L2
section
variable {Γ : Gm} {W : WX} {X : Cx} {a b c : Expr} {p p1 p2 : Pm} {m m1 m2 : Em} {c1 c2 : Eb} {pos : Pos} {s : Sm}
def dAdd : D → D → Option D := dOr iAdd (dOr lCat tCat)
theorem ro_Add (hK : X.K = Γ.K) : OpR X (binaryOp .Add) (rD2 Γ dAdd) := ro_or ro_add (ro_or ro_cat (ro_catT hK))
def dMul : D → D → Option D := dOr iMul lRep
theorem ro_Mul : OpR X (binaryOp .Mult) (rD2 Γ dMul) := ro_or ro_mul ro_rep
def sNever : Sm := fun _ => .stuck
theorem rs_never {st : Stmt} : PS X st (tS Γ W sNever) := ⟨fun pins s σ H D I h => by
  obtain ⟨Fz, ρ, L, S, h⟩ := h
  exact h.elim⟩
theorem rss_never {st : List Stmt} : PSs X st (tS Γ W sNever) := ⟨fun pins s σ H D I h => by
  obtain ⟨Fz, ρ, L, S, h⟩ := h
  exact h.elim⟩
/-- a slot is shared behind a statement -/
def sShrAt (i : Nat) (m : Sm) : Sm := fun ρ => (m ρ).bind fun f => match f with
  | .nx ρ' => .ok (.nx (frz i ρ'))
  | f => .ok f
theorem rs_shrAt (i : Nat) {st : Stmt} (h : PS X st (tS Γ W s)) : PS X st (tS Γ W (sShrAt i s)) := by
  refine PSi h fun D σ H q => ?_
  obtain ⟨Fz, ρ, L, S, q⟩ := q
  unfold sShrAt at q
  refine ⟨Fz, ρ, L, S, ?_⟩
  cases e1 : s ρ with
  | stuck => rw [e1] at q; exact q
  | exn x => rw [e1] at q; exact q
  | ok f =>
    rw [e1, R.bind] at q
    cases f with
    | bk ρ' => exact q
    | ct ρ' => exact q
    | rt d ρ' => exact q
    | nx ρ' =>
      intro σ' H' Fz' L' o' S' k' p'
      obtain ⟨Fz2, L2, S2, o2, m2⟩ := S'.frz i
      exact q σ' H' Fz2 L2 (o'.transL o2 k') S2 (fun a z => k' a (m2 a z)) (p'.trans ((pins_frz i ρ').pins σ'))
/-- slots are forgotten ahead of a statement; none of them pinned -/
def freeAt (ρ : List Sl) (vs : List Nat) : Bool := vs.all fun v => match ρ[v]? with
  | some (.val true _) => false
  | _ => true
def sWipe (is : List Nat) (m : Sm) : Sm := fun ρ => if freeAt ρ is then m (wipeD ρ is) else .stuck
theorem rs_wipe {st : Stmt} (is : List Nat) (h : PS X st (tS Γ W s)) : PS X st (tS Γ W (sWipe is s)) := by
  refine PSi h fun D σ H q => ?_
  obtain ⟨Fz, ρ, L, S, q⟩ := q
  unfold sWipe at q
  by_cases c : freeAt ρ is = true
  case neg => rw [if_neg c] at q; exact q.elim
  rw [if_pos c] at q
  obtain ⟨L1, S1, h1⟩ := S.wipe is
  refine tS_after S1 (.refl S.trk S.tabs) (fun a z => .inl (h1 a z)) (fun j d e => ⟨rfl, d, ?_⟩) q
  rw [wipeD_get, if_neg]
  · exact e
  · intro z
    have := List.all_eq_true.mp c j z.1
    rw [e] at this
    cases this
/-! and, or, not as values with effects -/
def eAndV (m n : Em) : Em := fun ρ => (m ρ).bind fun x => (dB x.1).bind fun b => if b then n x.2 else .ok (.bl false, x.2)
def eOrV (m n : Em) : Em := fun ρ => (m ρ).bind fun x => (dB x.1).bind fun b => if b then .ok (.bl true, x.2) else n x.2
theorem re_one {op} (h : PE X a (tE Γ W m)) : PE X (.BoolOp op [a] pos) (tE Γ W m) := pe_one h
/-- what follows a step of an expression -/
theorem tE_after {Fz Fz1 : AS} {H H1 : Hp} {σ : L2.St} {ρ ρ1 : List Sl} {L L1 : List Addr} {Q : VK} {n : Em} (S1 : Stt Γ Fz1 H1 σ ρ1 L1) (o1 : Out Γ Fz H (· ∈ L) Fz1 H1) (k1 : ∀ a ∈ L1, a ∈ L ∨ ¬ Trk H a) (q1 : PinE ρ ρ1)
    (h : match n ρ1 with
  | .ok (d, ρ') => ∀ v H' Fz' L' Ld, Out Γ Fz H (· ∈ L) Fz' H' → Stt Γ Fz' H' σ ρ' L' → Rep Γ Fz' none0 H' v d Ld → (∀ a ∈ Ld, a ∉ L' ∧ ¬ Fz' a) → (∀ a, a ∈ L' ∨ a ∈ Ld → a ∈ L ∨ ¬ Trk H a) → PinE ρ ρ' → Q v H'
  | .exn x => ∀ cls dx H' Fz' , Out Γ Fz H (· ∈ L) Fz' H' → XRep Γ H' x cls dx → W cls dx σ H'
  | .stuck => False) : tE Γ W n σ H1 Q := by
  refine ⟨Fz1, ρ1, L1, S1, ?_⟩
  cases e2 : n ρ1 with
  | stuck => rw [e2] at h; exact h
  | exn x => rw [e2] at h; intro cls dx H' Fz' o2 xr; exact h cls dx H' Fz' (o1.transL o2 k1) xr
  | ok z2 =>
    obtain ⟨d2, ρ2⟩ := z2
    rw [e2] at h
    intro v2 H2 Fz2 L2 Ld2 o2 S2 r2 n2 k2 q2
    exact h v2 H2 Fz2 L2 Ld2 (o1.transL o2 k1) S2 r2 n2 (fun a z => (k2 a z).elim (k1 a) fun z => .inr fun t => z (o1.there a t)) (q1.trans q2)
theorem re_and {rest : List Expr} (h1 : PE X a (tE Γ W m1)) (h2 : PE X (.BoolOp .And (b :: rest) pos) (tE Γ W m2)) : PE X (.BoolOp .And (a :: b :: rest) pos) (tE Γ W (eAndV m1 m2)) := by
  refine PEi (pe_and h1 h2) fun σ H Q h => ?_
  obtain ⟨Fz, ρ, L, S, h⟩ := h
  unfold eAndV at h
  refine ⟨Fz, ρ, L, S, ?_⟩
  cases e1 : m1 ρ with
  | stuck => rw [e1] at h; exact h
  | exn x => rw [e1] at h; exact h
  | ok z1 =>
    obtain ⟨d1, ρ1⟩ := z1
    rw [e1] at h
    intro v1 H1 Fz1 L1 Ld1 o1 S1 r1 n1 k1 q1
    cases d1 <;> first | exact h.elim | skip
    case bl bb =>
      refine ⟨bb, r1.isBl, ?_⟩
      cases bb with
      | false => exact h (.bl false) H1 Fz1 L1 [] o1 S1 (.bl false) (fun a z => nomatch z) (fun a z => k1 a (z.imp id fun z => nomatch z)) q1
      | true => exact tE_after S1 o1 (fun a z => k1 a (.inl z)) q1 h
theorem re_or {rest : List Expr} (h1 : PE X a (tE Γ W m1)) (h2 : PE X (.BoolOp .Or (b :: rest) pos) (tE Γ W m2)) : PE X (.BoolOp .Or (a :: b :: rest) pos) (tE Γ W (eOrV m1 m2)) := by
  refine PEi (pe_or h1 h2) fun σ H Q h => ?_
  obtain ⟨Fz, ρ, L, S, h⟩ := h
  unfold eOrV at h
  refine ⟨Fz, ρ, L, S, ?_⟩
  cases e1 : m1 ρ with
  | stuck => rw [e1] at h; exact h
  | exn x => rw [e1] at h; exact h
  | ok z1 =>
    obtain ⟨d1, ρ1⟩ := z1
    rw [e1] at h
    intro v1 H1 Fz1 L1 Ld1 o1 S1 r1 n1 k1 q1
    cases d1 <;> first | exact h.elim | skip
    case bl bb =>
      refine ⟨bb, r1.isBl, ?_⟩
      cases bb with
      | true => exact h (.bl true) H1 Fz1 L1 [] o1 S1 (.bl true) (fun a z => nomatch z) (fun a z => k1 a (z.imp id fun z => nomatch z)) q1
      | false => exact tE_after S1 o1 (fun a z => k1 a (.inl z)) q1 h
theorem re_not (h : PE X a (tE Γ W m)) : PE X (.UnaryOp .Not a pos) (tE Γ W (eOp1 dNot m)) := by
  refine PEi (pe_not h) fun σ H Q h => ?_
  obtain ⟨Fz, ρ, L, S, h⟩ := h
  unfold eOp1 at h
  refine ⟨Fz, ρ, L, S, ?_⟩
  cases e1 : m ρ with
  | stuck => rw [e1] at h; exact h
  | exn x => rw [e1] at h; exact h
  | ok z1 =>
    obtain ⟨d1, ρ1⟩ := z1
    rw [e1] at h
    intro v1 H1 Fz1 L1 Ld1 o1 S1 r1 n1 k1 q1
    cases d1 <;> first | exact h.elim | skip
    case bl bb => exact ⟨bb, r1.isBl, h _ H1 Fz1 L1 [] o1 S1 (.bl (!bb)) (fun a z => nomatch z) (fun a z => k1 a (z.imp id fun z => nomatch z)) q1⟩
/-- E-level ifexp -/
def eIf (c : Eb) (m n : Em) : Em := fun ρ => (c ρ).bind fun x => if x.1 then m x.2 else n x.2
theorem re_if (hc : PT X c (tET Γ W c1)) (h1 : PE X a (tE Γ W m1)) (h2 : PE X b (tE Γ W m2)) : PE X (.IfExp c a b pos) (tE Γ W (eIf c1 m1 m2)) := by
  refine PEi (pe_ifExp hc h1 h2) fun σ H Q h => ?_
  obtain ⟨Fz, ρ, L, S, h⟩ := h
  unfold eIf at h
  refine ⟨Fz, ρ, L, S, ?_⟩
  cases e1 : c1 ρ with
  | stuck => rw [e1] at h; exact h
  | exn x => rw [e1] at h; exact h
  | ok z1 =>
    obtain ⟨bb, ρ1⟩ := z1
    rw [e1] at h
    intro H1 Fz1 L1 o1 S1 k1 q1
    cases bb with
    | true => exact tE_after S1 o1 k1 q1 h
    | false => exact tE_after S1 o1 k1 q1 h
def wfuel : Nat := 4096
theorem takesW {P : WX} (h : ∀ a b c d, ¬ P a b c d := by intro _ _ _ _ z; exact z) : Takes X P := by
  have e : P = fun _ _ _ _ => False := by funext a b c d; exact eq_false (h a b c d)
  subst e
  exact LamX.takes0
end
end DL

namespace DL
open PySem PySem.Spec L2
section
variable {Γ : Gm} {P : Program} {w : World} {mg : Str → Option Value} {base : Heap}
/-- the law's own def -/
theorem fnO_mk {x qual : Str} {st : Stmt} {f : Addr} {fd : FuncData} {N ps : List Str} {k n : Nat} {mu : List Bool} {b : Sm} (F : Fun Γ.K x qual st f fd) (S : FnScope N ps (defScope st)) (hps : ps.length = mu.length) (hN : N.length = mu.length + n)
    (body : ∀ (cdv : Value) (A : Around) (outer : List Env) (s : Shared) (H : Hp) (E : XK), Room k (A.deeper (PyProof.Rows.envOfC qual (defScope st) s.heap.objs.size f cdv)) → PSs (cxOf (L2.CX P w) P w Γ.K mg base N qual (defScope st) f cdv A outer s H E) (defBody st) (tS Γ (fun cls d _ H => E cls d H) b)) :
    FnOk P w Γ.K mg base (L2.CX P w) (k + 1) f fd ps (spD Γ mu mu.length (bodyG mu n b)) :=
  F.okX S (fun vs H Q E h => by rw [h.1, hps]) (fun cdv A outer s H vs Q E hr h => ⟨_, body cdv A outer s H E hr, body_ok hN h⟩)
theorem law_sp {G : Gf} {H : Hp} {a : Addr} {ns : List Int} (hT : Γ.T = []) (hO : Only H) (hS : SqL Γ.K H a (ns.map V.int)) (h : G [.lst .kon (ns.map .int)] = .ok (.bl true, [])) : spD Γ [false] 1 G [.ref a] H (fun v _ => v = .bl true) fun _ _ _ => False := by
  refine ⟨rfl, none0, [.lst .kon (ns.map .int)], [], .cons (L1 := []) (L2 := []) (.lstK ?_ (reps_ints ns)) .nil (fun _ z => nomatch z) rfl, (fun _ z => nomatch z), (fun _ z => z.elim), ?_, ?_⟩
  · rcases hS with h | h
    · rcases h with h | h
      · rcases hO a with z | ⟨o, xs, z⟩
        · rw [h] at z; cases z
        · rw [h] at z; cases z
      · exact .inl h
    · exact .inr h
  · rw [hT]; exact fun p z => nomatch z
  · rw [h]
    intro v H' Fz' Ld Lm o r _ _ _ _
    exact r.isBl
theorem cx_out {P : Program} {w : World} {H : Hp} {s : Shared} {e : Value} {s' : Shared} (h : L2.CX P w [] H s (fun _ _ _ => False) e s') : False := by
  obtain ⟨_, _, _, _, _, _, _, _, _, _, _, _, h⟩ := h
  exact h
end
section
variable {Γ : Gm} {X : Cx}
/-- is True, is False -/
def dIsB : D → D → Option D := fun a b => match a, b with
  | .hole, .bl _ => none
  | .bl c, .bl k => some (.bl (c == k))
  | _, .bl _ => some (.bl false)
  | _, _ => none
def dIs : D → D → Option D := dOr dIsN dIsB
def dNotB : D → D → Option D := fun a b => match a, b with
  | .hole, .bl _ => none
  | .bl c, .bl k => some (.bl (c != k))
  | _, .bl _ => some (.bl true)
  | _, _ => none
def dNot2 : D → D → Option D := dOr dNotN dNotB
theorem rep_nobl {Fz Bz : AS} {H : Hp} {x : V} {d : D} {L : List Addr} {v : Value} {k : Bool} (r : Rep Γ Fz Bz H x d L) (rx : RelV x v) (hd : ∀ c, d ≠ .bl c) (hh : d ≠ .hole) : v ≠ .bool k ∧ PySem.plainIs v (.bool k) = true := by
  cases r <;> first
    | exact absurd rfl hh
    | exact absurd rfl (hd _)
    | (cases rx; exact ⟨(fun z => nomatch z), rfl⟩)
    | (obtain ⟨t, rfl⟩ := rx; exact ⟨(fun z => nomatch z), rfl⟩)
theorem ro_isB : OpR X (compareOp .Is) (rD2 Γ dIsB) := by
  intro pins s σ H x y v u Q I rx ry q
  obtain ⟨Fz, Bz, d1, d2, L1, L2, r1, r2, s12, q⟩ := q
  cases d2 <;> first | (cases d1 <;> exact q.elim) | skip
  rename_i k
  have ey := r2.bl_v.1
  subst ey
  cases (show u = Value.bool k from ry)
  by_cases hd : ∃ c, d1 = .bl c
  · obtain ⟨c, rfl⟩ := hd
    have ex := r1.bl_v.1
    subst ex
    cases (show v = Value.bool c from rx)
    have q' := q (.bl (c == k)) H [] Same.refl' (.bl _) fun a z => nomatch z
    by_cases e : c = k
    · subst e
      exact PySem.wpAny_is_self rfl ⟨.bl true, H, I, rfl, by simpa using q'⟩
    · exact PySem.wpAny_is_other rfl (fun z => e (Value.bool.inj z)) ⟨.bl false, H, I, rfl, by have e' : (c == k) = false := beq_eq_false_iff_ne.mpr e; rw [e'] at q'; exact q'⟩
  · by_cases hh : d1 = .hole
    · subst hh; exact q.elim
    obtain ⟨h1, h2⟩ := rep_nobl (k := k) r1 rx (fun c z => hd ⟨c, z⟩) hh
    refine PySem.wpAny_is_other h2 h1 ⟨.bl false, H, I, rfl, ?_⟩
    cases d1 <;> first
      | exact absurd ⟨_, rfl⟩ hd
      | exact absurd rfl hh
      | exact q (.bl false) H [] Same.refl' (.bl _) fun a z => nomatch z
theorem ro_notB : OpR X (compareOp .IsNot) (rD2 Γ dNotB) := by
  intro pins s σ H x y v u Q I rx ry q
  obtain ⟨Fz, Bz, d1, d2, L1, L2, r1, r2, s12, q⟩ := q
  cases d2 <;> first | (cases d1 <;> exact q.elim) | skip
  rename_i k
  have ey := r2.bl_v.1
  subst ey
  cases (show u = Value.bool k from ry)
  by_cases hd : ∃ c, d1 = .bl c
  · obtain ⟨c, rfl⟩ := hd
    have ex := r1.bl_v.1
    subst ex
    cases (show v = Value.bool c from rx)
    have q' := q (.bl (c != k)) H [] Same.refl' (.bl _) fun a z => nomatch z
    by_cases e : c = k
    · subst e
      exact PySem.wpAny_isNot_self rfl ⟨.bl false, H, I, rfl, by simpa using q'⟩
    · exact PySem.wpAny_isNot_other rfl (fun z => e (Value.bool.inj z)) ⟨.bl true, H, I, rfl, by have e' : (c != k) = true := bne_iff_ne.mpr e; rw [e'] at q'; exact q'⟩
  · by_cases hh : d1 = .hole
    · subst hh; exact q.elim
    obtain ⟨h1, h2⟩ := rep_nobl (k := k) r1 rx (fun c z => hd ⟨c, z⟩) hh
    refine PySem.wpAny_isNot_other h2 h1 ⟨.bl true, H, I, rfl, ?_⟩
    cases d1 <;> first
      | exact absurd ⟨_, rfl⟩ hd
      | exact absurd rfl hh
      | exact q (.bl true) H [] Same.refl' (.bl _) fun a z => nomatch z
theorem ro_is : OpR X (compareOp .Is) (rD2 Γ dIs) := ro_or ro_isN ro_isB
theorem ro_isnot : OpR X (compareOp .IsNot) (rD2 Γ dNot2) := ro_or ro_notN ro_notB
end
end DL

namespace PySem
namespace XcM
open PySem.W PySem.Calls PyProof.Rows PySem.HandSPX
/-! ### an own error: super().__init__(text); self.fld = fld -/
def xcA (fld : Str) (p1 p2 : Pos) : Arguments := { posonlyargs := [], args := [{ arg := "self", annotation := none, pos := p1 }, { arg := fld, annotation := none, pos := p2 }], vararg := none, kwonlyargs := [], kw_defaults := [], kwarg := none, defaults := [] }
def xcB (fld msg : Str) (j : Nat) (a1 a2 a3 a4 a5 a6 b1 b2 b3 b4 : Pos) : List Stmt := [.Expr (.Call (.Attribute (.Call (.Name "super" a1) [] [] a2) "__init__" a3) [.Constant (.str msg) j a4] [] a5) a6, .Assign [.Attribute (.Name "self" b1) fld b2] (.Name fld b3) b4]
def xcS (fld : Str) : Scope := { kind := .function, names := [("self", .local), (fld, .local), ("__class__", .free), ("super", .globalImplicit)], isGenerator := false, isCoroutine := false }
/-- the names of __init__ are unlike -/
structure XcS (fld : Str) : Prop where
  su : (xcS fld).names.lookup ("super" : Str) = some .globalImplicit
  cl : (xcS fld).names.lookup ("__class__" : Str) = some .free
  se : (xcS fld).names.lookup ("self" : Str) = some .local
  fl : (xcS fld).names.lookup fld = some .local
  ne : (fld == ("self" : Str)) = false
  nd : (fld == ("__debug__" : Str)) = false
/-- what the written part says of the class and of its __init__ -/
structure XcTxt (prog : Program) (K : Frag) (mg : Str → Option Value) (x fld : Str) (C : Addr) : Prop where
  gC : mg x = some (.ref C)
  gS : mg "super" = none
  cls : ∃ nm q N bs bm sn sub ab col dd k0 k1 k2 k3 k5, K.lookup C = some (excClassObj nm q C N bs bm true sn sub ab col dd k0 k1 k2 k3 k5 "ValueError.__new__") ∧ refsVE bm = true
  sa : findIn K (.ref C) "__setattr__" = some (some (.builtin "object.__setattr__"))
  ga : findIn K (.ref C) "__getattribute__" = some (some (.builtin "BaseException.__getattribute__"))
  gg : findIn K (.ref C) "__getattr__" = some none
  noF : findIn K (.ref C) fld = some none
  kC : keepIn K (.ref C) = true
  exC : subIn K (.ref C) (.type "BaseException") = some true
  veC : subIn K (.ref C) (.type "ValueError") = some true
  tyC : typeIn K (.ref C) = some (.type "type")
  hdC : hasDictIn K C = true
  opq : nsIn K cStatics "thirdparty.any" = some none
  meC : mroIn K C (.ref C) = some true
  sup : ks_superIn K C C "__init__" = some (some (.builtin "ValueError.__init__"))
  top : (prog.main.scope.names.lookup ("super" : Str)).isSome = false
  sc : XcS fld
  fn : ∃ (fI : Addr) (oc : Value) (od : Option Addr) (doc pm : Value) (an : Option Addr) (cda cc : Addr) (ct : Value) (osl : Array (Option Value)) (q msg : Str) (j : Nat) (p1 p2 a1 a2 a3 a4 a5 a6 b1 b2 b3 b4 : Pos) (ccl : Value) (cdd : Option Addr) (vs : Array Value) (ccs : Array (Option Value)) (file : Str) (tf : Tok) (cl : Value) (cld : Option Addr) (csl : Array (Option Value)),
    findIn K (.ref C) "__init__" = some (some (.ref fI)) ∧ typeIn K (.ref fI) = some (.type "function") ∧
    K.lookup fI = some ⟨oc, od, .func (ksFn "__init__" q (xcA fld p1 p2) (xcB fld msg j a1 a2 a3 a4 a5 a6 b1 b2 b3 b4) (xcS fld) .none .none doc pm an (.ref cda) ct cc), osl⟩ ∧ codeIn K (.ref cda) q = true ∧
    K.lookup cda = some ⟨ccl, cdd, .fields vs, ccs⟩ ∧ vs[2]? = some (.str file tf) ∧ ((prog.main.file : Str) == file) = true ∧ K.lookup cc = some ⟨cl, cld, .cell (some (.ref C)), csl⟩ ∧
    (∀ u v : Value, bindArgs (ksFn "__init__" q (xcA fld p1 p2) (xcB fld msg j a1 a2 a3 a4 a5 a6 b1 b2 b3 b4) (xcS fld) .none .none doc pm an (.ref cda) ct cc) ⟨[u, v], []⟩ = pure [(("self" : Str), u), (fld, v)]) ∧
    ∀ env : Env, ∃ pl : Sem Bool, eval (.Call (.Attribute (.Call (.Name "super" a1) [] [] a2) "__init__" a3) [.Constant (.str msg) j a4] [] a5) env = (do
      let ov ← attributeBase (.Call (.Name "super" a1) [] [] a2) "__init__" env (eval (.Call (.Name "super" a1) [] [] a2) env)
      standAt a3.atName
      let (f, first) ← holding [ov] (getMethod ov "__init__" pl)
      callWith a5 f first (backTo a5 (starEach [.Constant (.str msg) j a4] env)) [])
/-- a made error -/
structure XcMade (h h' : Heap) (e C d : Addr) (fld : Str) (v : Value) : Prop where
  keep : ∀ b o, h.get? b = some o → h'.get? b = some o
  new : h.objs.size ≤ e
  obj : ∃ oe vs, h'.get? e = some oe ∧ oe.cls = .ref C ∧ oe.dict = some d ∧ oe.data = .fields vs ∧ vs[1]? = some .none
  dbig : h.objs.size ≤ d
  dne : d ≠ e
  ns : h'.Ns1 d (fun y => if y = fld then some v else none)
section
variable {prog : Program} {w : World} {A : Around} {E : Value → Shared → Prop} {h : Heap} {g : Array GenState} {d : Drawn} {t : Nat} {os : OsState}
variable {nm q : Str} {C N : Addr} {bs bm : List Value} {hdct : Bool} {sn : List Str} {sub : List Value} {ab : Bool} {col : Option Bool} {dd : Option Addr} {k0 k1 k2 k3 k5 : Option Value}
/-- ValueError.__init__, bound -/
theorem xc_mw {u e t0 : Addr} {rest : List Value} {Q : Value → Shared → Prop}
    (hC : h.get? C = some (excClassObj nm q C N bs bm hdct sn sub ab col dd k0 k1 k2 k3 k5 "ValueError.__new__")) (he : h.get? e = some (excO C t0)) (hu : h.get? u = some (kxs_mw "ValueError.__init__" e)) (hrest : rest.length ≤ sizeLine)
    (hq : ∀ h' t1, (∀ b o, b ≠ e → h.get? b = some o → h'.get? b = some o) → h'.get? e = some (excO C t1) → Q .none ⟨h', g, d, t, os⟩) : wpAny (model prog w) A (call (.ref u) rest) Q E ⟨h, g, d, t, os⟩ := by
  refine wpAny_call (codeAny_of_tree ?_)
  show wpAny (model prog w) A.in1 (callAny (.ref u) ⟨rest, []⟩) _ _ ⟨h, g, d, t, os⟩
  simp only [callAny]
  refine wpAny_bind (wpAny_load hu ?_)
  simp only [kxs_mw, show (Value.type "method-wrapper" == Value.type "method" || Value.type "method-wrapper" == Value.type "builtin_function_or_method" || Value.type "method-wrapper" == Value.type "method-wrapper") = true from (by decide), if_true]
  refine W.KFB.if_so (by decide) (wpAny_bind (check_bound_init F.excBase_ValueError.toExcCallFacts hC he rfl (wpAny_bind (wpAny_pure (wpAny_pure ⟨Code.quiet_builtin _ (by decide +kernel), codeAny_builtin F.excBase_ValueError.initEntry ?_⟩)))))
  rw [Around.under_plainId F.excBase_ValueError.init.plain _]
  wp_walk
  refine hq _ h.objs.size (fun b o hb ho => (Heap.get?_update_other _ _ (Ne.symm hb)).trans (Heap.get?_push_of_some _ ho)) ((Heap.get?_update_self _ (Heap.get?_push_of_some _ he) rfl).trans rfl)
end
theorem xc_ldL {M : Model} {s : Shared} {nme : Str} {scope : Scope} {L a cc : Addr} {cd : Value} {m : Str → Option Value} {x : Str} {pos : Pos} {v : Value} {Q : Value → Shared → Prop} {A : Around} {E : Value → Shared → Prop} (hn : s.heap.Ns L m) (hv : m x = some v) (h : Q v s) (hl : scope.names.lookup x = some .local) (hk : scope.kind = .function := by rfl) (hd : (x == ("__debug__" : Str)) = false := by decide) :
    wpAny M A (eval (.Name x pos) (ksEnv nme scope L a cd cc)) Q E s := wpAny_Name (wpAny_loadName_local hk hl hn hv h) hd
/-- __init__ of a fresh error at x -/
theorem xc_init {K : Frag} {mg mb : Str → Option Value} {x fld : Str} {C e t0 : Addr} {v : Value} {R : Result → Shared → Prop} {s : Shared} (T : XcTxt prog K mg x fld C) {fI : Addr} (hfI : findIn K (.ref C) "__init__" = some (some (.ref fI))) (X : K.In s.heap) (hlim : s.heap.NoLimit) (G : s.heap.Ns mainGlobals mg) (B : s.heap.Ns builtinsNs mb) (hB : ∀ y : Str, y ≠ "__name__" → mb y = bootBuiltins y)
    (hx : s.heap.get? e = some (excO C t0)) (hnx : K.lookup e = none) (hroom : A.depth < recursionLimit)
    (hq : ∀ h' tk dx t1, (∀ b o, b ≠ e → s.heap.get? b = some o → h'.get? b = some o) → h'.get? e = some { cls := .ref C, dict := some dx, data := .fields #[.ref t1, .none, .none, .none, .bool false, .none] } → s.heap.objs.size ≤ dx → dx ≠ e → h'.Ns1 dx (fun y => if y = fld then some v else none) → R (.ok (.ret .none)) { s with heap := h', toks := tk }) :
    codeAny (model prog w) A (.call (.ref fI) ⟨[.ref e, v], []⟩) R s := by
  obtain ⟨fI', oc, od, doc, pm, an, cda, cc, ct, osl, q, msg, j, p1, p2, a1, a2, a3, a4, a5, a6, b1, b2, b3, b4, ccl, cdd, vs, ccs, file, tf, cl, cld, csl, hf1, hf2, ho, hcd, hcda, hvs, hfile, hcc, hbind, hev⟩ := T.fn
  rw [hfI] at hf1
  cases hf1
  obtain ⟨nm, qn, N, bs, bm, sn, sub, ab, col, dd, k0, k1, k2, k3, k5, hC, hbm⟩ := T.cls
  have hcl : clsIn K C = some { name := nm, bases := bs, mro := .ref C :: bm, ns := N, qualname := qn, hasDict := true, slotNames := sn, subclasses := sub, abstract := ab, collection := col, hasDel := false } := by unfold clsIn; rw [hC] <;> rfl
  have S := T.sc
  obtain ⟨hp, g, d, t, os⟩ := s
  have hxL : hp.objs.size ≠ e := Nat.ne_of_gt (Heap.lt_size hx)
  refine ks_codeAny_call_defAt (fd := ksFn "__init__" q (xcA fld p1 p2) (xcB fld msg j a1 a2 a3 a4 a5 a6 b1 b2 b3 b4) (xcS fld) .none .none doc pm an (.ref cda) ct cc) (body := xcB fld msg j a1 a2 a3 a4 a5 a6 b1 b2 b3 b4) (binds := [(("self" : Str), .ref e), (fld, v)]) hroom (X _ _ ho) rfl hlim (codeRec_of X hcd) rfl (BindsTo.of_eq (hbind _ _)) (fun y hy => ?_) (fun y hy => ?_) (fun h₁ hn k => ?_) rfl rfl rfl
  · simp only [xcS, List.mem_cons, List.not_mem_nil, or_false] at hy
    rcases hy with rfl | rfl | rfl | rfl <;> (intro z; cases z)
  · simp only [List.mem_cons, List.not_mem_nil, or_false] at hy
    rcases hy with rfl | rfl
    · exact S.se
    · exact S.fl
  have X₁ : K.In h₁ := X.keeps k
  have hx₁ := k _ _ hx
  have hm1 : ([(("self" : Str), Value.ref e), (fld, v)] : List (Str × Value)).reverse.lookup ("self" : Str) = some (.ref e) := by
    have : ((("self" : Str)) == fld) = false := by rw [← S.ne]; exact Bool.eq_iff_iff.mpr ⟨fun z => by rw [beq_iff_eq] at z ⊢; exact z.symm, fun z => by rw [beq_iff_eq] at z ⊢; exact z.symm⟩
    simp [List.lookup, this]
  have hm2 : ([(("self" : Str), Value.ref e), (fld, v)] : List (Str × Value)).reverse.lookup fld = some v := by simp [List.lookup]
  show wpAt (model prog w) _ _ (execs (xcB fld msg j a1 a2 a3 a4 a5 a6 b1 b2 b3 b4) (ksEnv q (xcS fld) hp.objs.size fI (.ref cda) cc)) _ _ _
  obtain ⟨pl, hev⟩ := hev (ksEnv q (xcS fld) hp.objs.size fI (.ref cda) cc)
  refine ks_wpAt_execs_cons (ks_wpAt_Expr_any (ks_wpAt_MethodCall (pl := pl) ?_ hev))
  have oC : ∃ oC, h₁.get? C = some oC ∧ ∃ cd, oC.data = .cls cd := ⟨_, X₁ _ _ hC, _, rfl⟩
  obtain ⟨oC, hC1, cdC, hC2⟩ := oC
  refine ks_wpAt_super_base (env := ksEnv q (xcS fld) hp.objs.size fI (.ref cda) cc) S.su S.cl (by decide) rfl (X₁ _ _ ho) rfl rfl rfl (X₁ _ _ hcda) rfl hvs hfile T.top ?_
  refine ks_loadName_global rfl S.su (loadGlobal_builtin (env := ksEnv q (xcS fld) hp.objs.size fI (.ref cda) cc) (G.keeps k) T.gS (B.keeps k) ((hB _ (by decide)).trans (show bootBuiltins "super" = some (.type "super") by decide +kernel)) ⟨rfl, ?_⟩)
  refine wpAny_loadName_free rfl S.cl rfl ⟨_, X₁ _ _ hcc, rfl⟩ ?_
  refine wpAny_loadName_local rfl S.se hn hm1 ?_
  refine ks_wpAny_isType_cls hC1 hC2 ⟨rfl, ?_⟩
  refine ks_wpAny_call_super hC1 hC2 hx₁ rfl (fun c z => by cases z) (looks_mroIn X₁ T.meC) (fun h₂ e2 k2 => ?_)
  have X₂ : K.In h₂ := X₁.keeps k2
  have hx₂ := k2 _ _ hx₁
  have hl2 : (({ name := nm, bases := bs, mro := .ref C :: bm, ns := N, qualname := qn, hasDict := true, slotNames := sn, subclasses := sub, abstract := ab, collection := col, hasDel := false } : ClassData).mro.dropWhile (· != .ref C)).drop 1 = bm := by simp [List.dropWhile]
  have hal : alongIn K "__init__" bm = some (some (.builtin "ValueError.__init__")) := by
    have := T.sup
    unfold ks_superIn at this
    rw [hcl, Option.bind_some, hl2] at this
    exact this
  have neC : e ≠ C := fun z => by
    have := X _ _ hC
    rw [z] at hx
    rw [hx] at this
    cases this
  refine kxs_getMethod kxs_ValueError e2 (looks_opaque X₂ T.opq) (l₀ := .ref C :: bm) (fun A Q E s k q => wpAny_bind ((looks_clsIn X₂ hcl) A _ E s k (wpAny_pure q))) hl2 X₂ hal ?_ neC (by decide) ?_
  · exact (PySem.W.InstAt.type (od := none) ⟨hx₂, rfl, rfl, trivial⟩).andThen (looks_subIn X₂ T.veC)
  have hu : (h₂.push (kxs_mw "ValueError.__init__" e)).get? h₂.objs.size = some (kxs_mw "ValueError.__init__" e) := Heap.get?_push_at rfl rfl
  refine kxs_callWith (i := "ValueError.__init__") (x := e) rfl (evalArgs_plain (spliced_cons (Constant_str (pos := a4) (k := j) (spliced_nil ⟨hu, ?_⟩))))
  have k3 : ∀ b o, h₂.get? b = some o → (h₂.push (kxs_mw "ValueError.__init__" e)).get? b = some o := fun b o z => Heap.get?_push_of_some _ z
  have X₃ : K.In (h₂.push (kxs_mw "ValueError.__init__" e)) := X₂.keeps k3
  refine xc_mw (X₃ _ _ hC) (k3 _ _ hx₂) hu (by rw [sizeLine_eq]; exact (by decide : 1 ≤ 16777216)) (fun h₄ t4 k4 hx₄ => ?_)
  have k14 : ∀ b o, b ≠ e → h₁.get? b = some o → h₄.get? b = some o := fun b o hb z => k4 b o hb (k3 _ _ (k2 _ _ z))
  have X₄ : K.In h₄ := fun b o z => k14 b o (fun y => by rw [y, hnx] at z; cases z) (X₁ b o z)
  obtain ⟨oL, es, ep, hL, hr⟩ := hn
  have hn₄ : h₄.Ns hp.objs.size (fun x => ([(("self" : Str), Value.ref e), (fld, v)] : List (Str × Value)).reverse.lookup x) := ⟨oL, es, ep, k14 _ _ hxL hL, hr⟩
  dsimp only
  refine ks_wpAt_execs_cons (wpAt_of_wpAny (plainObj_wpAny_Assign_Attribute (xc_ldL hn₄ hm2 (xc_ldL hn₄ hm1 ?_ S.se) S.fl rfl S.nd) rfl))
  refine set_plain X₄ (ox := excO C t4) (od := none) ⟨hx₄, rfl, rfl, trivial⟩ T.sa ?_
  refine exc_osa X₄ hx₄ hcl (show refsVE (.ref C :: bm) = true from hbm) rfl T.noF (fun h₅ tk₅ dx k₅ dn dne hx₅ hn₅ => ?_)
  show wpAt (model prog w) _ _ (execs [] _) _ _ _
  refine wpAt_of_wpAny (wpAny_execs_nil (hq h₅ tk₅ dx t4 (fun b o hb z => k₅ b o hb (k14 b o hb (k b o z))) hx₅ ?_ dne hn₅))
  have sz : hp.objs.size < h₄.objs.size := Heap.lt_size (k14 _ _ hxL hL)
  exact Nat.le_of_lt (Nat.lt_of_lt_of_le sz dn)
/-- C(v) -/
theorem xc_made {prog : Program} {w : World} {A : Around} {K : Frag} {mg mb : Str → Option Value} {x fld : Str} {C : Addr} {v : Value} {R : Result → Shared → Prop} {s : Shared} (T : XcTxt prog K mg x fld C) (X : K.In s.heap) (hlim : s.heap.NoLimit) (G : s.heap.Ns mainGlobals mg) (B : s.heap.Ns builtinsNs mb) (hB : ∀ y : Str, y ≠ "__name__" → mb y = bootBuiltins y)
    (hroom : A.depth + 1 < recursionLimit) (hq : ∀ h' tk e d, XcMade s.heap h' e C d fld v → R (.ok (.ret (.ref e))) { s with heap := h', toks := tk }) : codeAny (model prog w) A (.call (.ref C) ⟨[v], []⟩) R s := by
  obtain ⟨fI, _, _, _, _, _, _, _, _, _, _, _, _, _, _, _, _, _, _, _, _, _, _, _, _, _, _, _, _, _, _, _, _, _, iC, tC, _⟩ := T.fn
  obtain ⟨_, _, _, _, bm, _, _, _, _, _, _, _, _, _, _, hC, hbm⟩ := T.cls
  obtain ⟨hp, g, dr, tk, os⟩ := s
  let hq2 : Heap := (hp.push (kdv_tup [v])).push (excO C hp.objs.size)
  have k : ∀ b o, hp.get? b = some o → hq2.get? b = some o := fun b o z => Heap.get?_push_of_some _ (Heap.get?_push_of_some _ z)
  have at2 : hq2.get? (hp.objs.size + 1) = some (excO C hp.objs.size) := by show ((hp.push (kdv_tup [v])).push (excO C hp.objs.size)).get? (hp.objs.size + 1) = _; heap_get
  have no2 : K.lookup (hp.objs.size + 1) = none := by
    by_cases z : K.lookup (hp.objs.size + 1) = none
    · exact z
    · obtain ⟨o, eo⟩ := Option.ne_none_iff_exists'.mp z
      exact absurd (Nat.lt_of_succ_lt (Heap.lt_size (show hp.get? (hp.objs.size + 1) = some o from X _ _ eo))) (Nat.lt_irrefl _)
  have few : [v].length ≤ sizeLine := by rw [sizeLine_eq]; exact (by decide : 1 ≤ 16777216)
  refine call_own F.excBase_ValueError (fun Y => refsVE_contains Y bm hbm) (X _ _ hC) (looks_findIn X iC) (fun self => bind_fn X self tC) few (xc_init (s := ⟨hq2, g, dr, tk, os⟩) T iC (X.keeps k) (hlim.keeps k) (G.keeps k) (B.keeps k) hB at2 no2 ?_ fun h' tk' dx t1 k' hx dn dne hns => ?_)
  · exact hroom
  · have z : hp.objs.size ≤ dx := by
      have q : hq2.objs.size ≤ dx := dn
      have e : hq2.objs.size = hp.objs.size + 1 + 1 := by show ((hp.push (kdv_tup [v])).push (excO C hp.objs.size)).objs.size = _; rw [Heap.size_push, Heap.size_push]
      omega
    exact ⟨rfl, hq h' tk' _ dx ⟨fun b o e => k' b o (Nat.ne_of_lt (Nat.lt_succ_of_lt (Heap.lt_size e))) (k b o e), Nat.le_succ _, ⟨_, _, hx, rfl, rfl, rfl, rfl⟩, z, dne, hns⟩⟩
end XcM
end PySem
namespace DL
open PySem PySem.Spec L2
theorem xd_rel {v : V} {v' : Value} (r : RelV v v') (fld f : Str) : RelO (List.lookup f [(fld, v)]) (if f = fld then some v' else none) := by
  by_cases hw : f = fld
  · subst hw
    simp [List.lookup]
    exact r
  · have e : (f == fld) = false := by simpa using hw
    simp [List.lookup, e, hw]
    trivial
/-- C(e), C an own error with one field -/
def tMkX (C : Addr) (fld : Str) (ta : TA) : L2.St → Hp → XK → Prop := fun σ H Q => ta σ H fun vs H1 => ∃ v, vs = [v] ∧ ∀ d, H1 d = none → Q (.ref C) (some d) (upd H1 d (.xd [(fld, v)]))
section
variable {X : Cx} {C : Addr} {x fld : Str}
theorem pmk_xc {a : Expr} {ta : TA} {p pos : Pos} {k : Nat} (T : XcM.XcTxt X.prog X.K X.mg x fld C) (hr : Room k X.A) (ha : PA X [a] ta) (hg : Gl X x) (hdx : (x == ("__debug__" : Str)) = false := by decide)
    (he : starEach (a :: []) X.env = (false, eval a X.env) :: starEach [] X.env := by rfl) (hpl : (backTo pos (starEach [] X.env)).any (·.1) = false := by rfl) : PMk X (.Call (.Name x p) [a] [] pos) (tMkX C fld ta) := by
  intro pins s σ H Q I h
  refine wpAny_Call_Name_kw (ld_glob I hg T.gC (PySem.W.callWith_K (h₀ := X.base) I.ok.mod.kin T.kC (thn (ha.run pos pins s σ H _ I h) fun us s1 ⟨vs, H1, I1, r1, v, ev, q1⟩ => ⟨I1.kIn, ?_⟩) he hpl) hdx)
  subst ev
  cases r1 with
  | @cons _ v' _ us' rv rn =>
    cases rn
    show wpAny (model X.prog X.w) X.A (call (.ref C) [v']) _ _ s1
    have hlim := I1.nolimit
    obtain ⟨mb, hb1, hb2⟩ := I1.ok.mod.blt
    obtain ⟨hp, g, dr, tk, os⟩ := s1
    refine wpAny_call (XcM.xc_made T I1.kIn hlim (I1.ok.mod.glob.keeps I1.bk) (hb1.keeps I1.bk) hb2 (by have := hr.dp; omega) fun h' tk' e d M => ?_)
    show MkP X pins σ Q (.ref e) ⟨h', g, dr, tk', os⟩
    obtain ⟨oe, fv, hoe, hc, hd, hdat, h1⟩ := M.obj
    obtain ⟨G', g1, g2⟩ := restrict h' fun b => decide (b ≠ e)
    have gk : ∀ b, b ≠ e → G'.get? b = h'.get? b := fun b hb => g1 b (decide_eq_true hb)
    have ge : G'.get? e = none := g2 e (by simp)
    have old : ∀ b o, hp.get? b = some o → G'.get? b = some o := fun b o q => (gk b (Nat.ne_of_lt (Nat.lt_of_lt_of_le (Heap.lt_size q) M.new))).trans (M.keep b o q)
    have J : Inv X pins σ (upd H1 d (.xd [(fld, v)])) ⟨G', g, dr, tk', os⟩ := I1.laid (t' := tk') old M.dbig ⟨_, M.ns.at (fun o q => (gk d M.dne).trans q), fun f => xd_rel rv fld f⟩
    refine ⟨e, oe, fv, ⟨G', g, dr, tk', os⟩, _, .ref C, some d, rfl, J, fun b o q => ?_, ge, hoe, ⟨hc, hd⟩, hdat, h1, ?_, rfl, I1.bare, raises_own T.exC T.tyC, q1 d (I1.hok.fresh M.dbig)⟩
    · by_cases hb : b = e
      · subst hb
        exact nomatch (show none = some o from ge.symm.trans q)
      · exact (gk b hb).symm.trans q
    · exact (upd_ne (Ne.symm M.dne)).trans (I1.hok.fresh M.new)
/-- raise C(e) -/
def sRaise (x fld : Str) (p : Pm) : Sm := fun ρ => (p ρ).bind fun d => match scal0 d with
  | some _ => .exn ⟨x, fld, d⟩
  | none => .stuck
theorem rs_raise {Γ : Gm} {W : WX} {p1 : Pm} {a : Expr} {p pos pos2 : Pos} {k : Nat} (hc : X.calm = true) (T : XcM.XcTxt X.prog X.K X.mg x fld C) (hC : Γ.cm x = C) (hr : Room k X.A) (tk : Takes X W) (ha : PE X a (tP Γ W p1)) (hg : Gl X x := by rfl) (hdx : (x == ("__debug__" : Str)) = false := by decide)
    (he : starEach (a :: []) X.env = (false, eval a X.env) :: starEach [] X.env := by rfl) (hpl : (backTo pos (starEach [] X.env)).any (·.1) = false := by rfl) : PS X (.Raise (some (.Call (.Name x p) [a] [] pos)) none pos2) (tS Γ W (sRaise x fld p1)) := by
  refine PSi (ps_raise hc tk (pmk_xc T hr (rp_cons ha rp_nil he) hg hdx he hpl)) fun D σ H h => ?_
  obtain ⟨Fz, ρ, L, S, h⟩ := h
  unfold sRaise at h
  refine ⟨Fz, ρ, L, S, ?_⟩
  unfold pCons pNil
  cases e1 : p1 ρ with
  | stuck => rw [e1] at h; exact h
  | exn x => rw [e1] at h; intro cls dx H' Fz' o xr; exact h cls dx σ H' Fz' (o.mono fun _ z => z.elim) xr
  | ok d =>
    rw [e1, R.bind] at h
    dsimp only [R.bind]
    intro vs H' Fz' Ld o r n
    obtain ⟨v, rfl, rv⟩ := r.one
    refine ⟨v, rfl, fun dd hd => ?_⟩
    cases es : scal0 d with
    | none => rw [es] at h; exact h.elim
    | some v0 =>
      rw [es] at h
      have ev : v = v0 := by
        cases d <;> first | (cases es; done) | (cases es; cases rv; rfl)
      subst ev
      have oS : Out Γ Fz' H' none0 Fz' (upd H' dd (.xd [(fld, v)])) := Out.same o.trk o.tabs (same_upd hd)
      exact h (.ref C) (some dd) σ _ Fz' ((o.trans0 oS).mono fun _ z => z.elim) ⟨by rw [hC], dd, v, rfl, upd_same, scal0_rep es⟩
end
end DL

namespace PySem
namespace XcM
open PySem.W PySem.Spec PySem.Calls PyProof.Rows
section
variable {prog : Program} {w : World} {A : Around} {E : Value → Shared → Prop} {s : Shared} {K : Frag} {x D : Addr} {ox : Obj} {od : Option Obj}
theorem find_data {C : Addr} {nm : Str} {a g : Value} (hc : (clsIn K C).isSome = true) (ha : findIn K (.ref C) nm = some (some a)) (hg : specialIn K a "__get__" = some (some g)) (ht : takesIn K a = some true) : findObj K C od nm = some (.bind g a) := by
  obtain ⟨cd, hc⟩ := Option.isSome_iff_exists.mp hc
  unfold findObj; rw [hc, Option.bind_some, ha, Option.bind_some]; simp [hg, ht]
/-- e.__class__, e an own error, with its dict or without -/
theorem class_of {Q : Option Value → Shared → Prop} (T : L2.ExcC K D) (X : K.In s.heap) (I : InstAt s.heap x ox D od) (h : Q (some (.ref D)) { s with toks := s.toks + 1 }) : wpAny (model prog w) A (getAttr? (.ref x) "__class__") Q E s := by
  have fo : findObj K D od "__class__" = some (.bind (.builtin "getset_descriptor.__get__") (.builtin "object.__class__")) := find_data (by obtain ⟨cd, z, _⟩ := any_some T.hd; rw [z]; rfl) T.ha T.hn T.ht
  obtain ⟨hp, g, d, t, os⟩ := s
  have A0 := I.type (M := model prog w)
  have A1 := looks_findIn (M := model prog w) X T.hg
  have A2 := looks_findIn (M := model prog w) X T.hk
  have A3 := looks_find (M := model prog w) X I fo
  have su : Looks (model prog w) hp (isInstance (.ref x) (.type "BaseException")) true := A0.andThen (looks_subIn X T.hs)
  have n0 : (false && onTheHeap (Value.builtin "BaseException.__getattribute__")) = false := rfl
  have n2 : (Value.builtin "BaseException.__getattribute__" == Value.builtin "object.__getattribute__") = false := by decide +kernel
  have n1 : (onTheHeap (Value.ref D) && Value.builtin "BaseException.__getattribute__" == Value.builtin "object.__getattribute__") = false := (congrArg (onTheHeap (Value.ref D) && ·) n2).trans rfl
  unfold getAttr? getAttrBy? getAttrBy
  refine wpAny_bind (wpAny_mkText (wpAny_bind (wpAny_attempt (wpAny_holding (wpAny_bind (A0.at (wpAny_bind (A1.at ?_))))))))
  show wpAny (model prog w) A (if (onTheHeap (Value.ref D) && Value.builtin "BaseException.__getattribute__" == Value.builtin "object.__getattribute__") = true then _ else _) _ _ _
  rw [n1, if_neg Bool.false_ne_true]; unfold getAttrByItsOwn hookBefore
  refine wpAny_bind ?_
  rw [if_pos (show onTheHeap (Value.ref D) = true from rfl)]
  refine A2.at (wpAny_bind (wpAny_attempt (wpAny_holding ?_)))
  unfold callGetattribute; rw [n0, if_neg Bool.false_ne_true]; unfold boundAndCalled; rw [PySem.F.excAttr_ValueError.ga.bind (.ref x)]
  refine wpAny_bind (wpAny_pure ?_)
  show wpAny (model prog w) A (call (.builtin "BaseException.__getattribute__") [.ref x, .str "__class__" t]) _ _ _
  refine wpAny_call (codeAny_call_builtin PySem.F.excAttr_ValueError.ga.plain PySem.F.entry_bexc_ga (@check_slot (model prog w) _ _ ⟨hp, g, d, t + 1, os⟩ "BaseException.__getattribute__" "BaseException" "__getattribute__" (.ref x) [.str "__class__" t] [] _ (by decide +kernel) (by decide +kernel) su (PySem.F.args_bexc_ga (.ref x) (.str "__class__" t)) ?_))
  unfold Builtin.«object.__getattribute__»
  refine wpAny_bind (wpAny_of_eq (a := ((Value.ref x : Value), [Value.str "__class__" t])) (by first | rfl | (simp only [slotArgs]; rfl)) (wpAny_bind (wpAny_pure (wpAny_bind (A0.at (wpAny_bind (A3.at ?_)))))))
  show wpAny (model prog w) _ (holding [Value.builtin "object.__class__"] (call (.builtin "getset_descriptor.__get__") [.builtin "object.__class__", .ref x, .ref D]) >>= ret) _ _ _
  refine wpAny_bind (wpAny_holding (wpAny_call (class_get (s := ⟨hp, g, d, t + 1, os⟩) (ox := ox) (od := od) X I T.hm (wpAny_pure ?_))))
  show wpAny (model prog w) _ (handedOut (.ref D)) _ _ _
  rw [handedOut_of (v := .ref D) rfl]
  first | exact wpAny_pure (wpAny_pure h) | exact wpAny_pure h | exact wpAny_pure (wpAny_bind (wpAny_pure (wpAny_pure h)))
theorem kitX_own (T : L2.ExcC K D) : KitX K (.ref x) (.ref D) (fun h => ∃ od, InstAt h x ox D od) := by
  obtain ⟨cdD, hcD, _⟩ := any_some T.hd
  have look : ∃ o, K.lookup D = some o ∧ ∃ c, o.data = .cls c := by
    unfold clsIn at hcD
    split at hcD
    · rename_i c' d' cd' sl' ho
      exact ⟨_, ho, _, rfl⟩
    · cases hcD
  obtain ⟨oD, l1, c1, l2⟩ := look
  refine ⟨fun _ _ _ ⟨od, I⟩ => I.type, fun _ _ X _ => ?_, fun h tp dd its n sl X htp => ?_, fun X ⟨od, I⟩ k => class_of T X I k⟩
  · intro A' Q' E' s' k q
    obtain ⟨oc, odd, oda, osl⟩ := oD
    dsimp only at l2
    subst l2
    unfold isType loadHead
    exact wpAny_bind (wpAny_loadPart (k _ _ (X _ _ l1)) (wpAny_pure q))
  · refine Bool.eq_false_iff.mpr fun q => ?_
    have e : D = tp := Value.ref.inj (beq_iff_eq.mp q)
    subst e
    have z := (X _ _ l1).symm.trans htp
    cases z
    cases l2
end
end XcM
end PySem
namespace DL
open PySem PySem.Spec L2
/-- isinstance(e, c), e the caught own error (class at D, its dict at dd) -/
def rIsX (K : PySem.W.Frag) (D a dd : Addr) : List V → Hp → VK → Prop := fun xs H Q => ∃ (c : V) (cv : Value) (b : Bool) (fs : List (Str × V)), xs = [.ref a, c] ∧ (∀ u, RelV c u → u = cv) ∧ PySem.W.kitOne K (.ref D) cv = some b ∧ H dd = some (.xd fs) ∧ Q (.bl b) H
theorem call_isX {X : Cx} {a D dd : Addr} {oe : Obj} {pn : List (Addr × Obj)} (C : ExcC X.K D) (hz : Zc (.ref D) (some dd) oe) (hf : ∃ vs, oe.data = .fields vs) : CallR (X.suite a ((a, oe) :: pn)) (.builtin "isinstance") (rIsX X.K D a dd) := by
  intro pins s σ H xs us Q I r h
  obtain ⟨c, cv, b, fs, rfl, hcv, e, hdd, q⟩ := h
  match us, r with
  | [ux, uc], .cons rx (.cons rt .nil) =>
    obtain rfl : ux = Value.ref a := rx
    obtain rfl := hcv _ rt
    obtain ⟨hget, _⟩ := I.pin (a, oe) (List.mem_append.mpr (.inl List.mem_cons_self))
    obtain ⟨vs, hv⟩ := hf
    obtain ⟨mA, hns, _⟩ := (I.hok dd _ hdd : ObjOk X.prog X.w H s.heap dd (.xd fs))
    obtain ⟨od, ho, _⟩ := lookIn_ns hns
    have J : PySem.W.InstAt s.heap a oe D (some od) := ⟨hget, hz.1, by unfold PySem.W.notCls; rw [hv] <;> rfl, by rw [hz.2]; exact ho⟩
    exact PySem.W.kia_one (PySem.XcM.kitX_own C) I.kIn ⟨_, J⟩ e (fun z => nomatch z) fun tk => ⟨.bl b, H, I.kept (t' := tk) fun _ _ z => z, rfl, q⟩
end DL

namespace DL
open PySem PySem.Spec PyProof.Rows L2 LamX
/-- x(), in the def that got the lambda, its error taken by what is wished at this very frame -/
theorem pe_actW {X : Cx} {pins : List (Addr × Obj)} {σ : L2.St} {H : Hp} {s : Shared} {CXg : CXT} {Eg : XK} {Ng : List Str} {qg : Str} {sg : Scope} {g f c' : Addr} {cdg pm ctv : Value} {params : Arguments} {body : Expr} {scope : Scope} {k i : Nat} {a : Str} {pn : List (Addr × Obj)} {xe : Value → Shared → Prop} {W : WX} {tb : XK → TE} {p1 p2 : Pos}
    (I : Inv X pins σ H s) (L : LamS X.env.scope scope) (hf : s.heap.get? f = some (PySem.W.kla_obj "<lambda>" (X.env.qual ++ "<lambda>") params body scope (cloFrom X.env.cells scope.names []) pm c' ctv)) (hfn : H f = none) (hfr : f ∉ frs X.stack)
    (hbind : bindArgs (PySem.W.kla_fn "<lambda>" (X.env.qual ++ "<lambda>") params body scope (cloFrom X.env.cells scope.names []) pm (.ref c') ctv) ⟨[], []⟩ = pure [])
    (tk : Takes ((cxOf CXg X.prog X.w X.K X.mg X.base Ng qg sg g cdg X.A X.stack s H Eg).tr pn xe) W) (hr : Room (k + 1) (X.A.deeper (envOfC qg sg s.heap.objs.size g cdg)))
    (hbody : ∀ (E : XK) (A : Around) (outer : List Env) (s : Shared) (H : Hp), Room k (A.deeper (lamEnv X scope s.heap.objs.size f c')) → PE (lamCx X A outer s H E scope f c') body (tb E))
    (hN : Ng[i]? = some a) (hv : Vis sg a) (hd : (a == ("__debug__" : Str)) = false := by decide) (hcd : (a == ("__classdict__" : Str)) = false := by decide) :
    PE ((cxOf CXg X.prog X.w X.K X.mg X.base Ng qg sg g cdg X.A X.stack s H Eg).tr pn xe) (.Call (.Name a p1) [] [] p2) (fun σZ HZ Q => σZ[i]? = some (some (.ref f)) ∧ HZ c' = some (CodeO c' (X.env.qual ++ "<lambda>")) ∧ tb (WE W σZ) σ HZ Q) := by
  refine ⟨fun pinsZ sZ σZ HZ Q IZ ⟨hs, hc, ht⟩ => wpAny_Call_Name_kw (thn ((pe_var (pos := p1) (i := i) hN hv hd hcd).run pinsZ sZ σZ HZ (fun v H1 => v = .ref f ∧ H1 = HZ) IZ ⟨.ref f, hs, rfl, rfl⟩) fun u s1 ⟨v, H1, I1, r1, q1⟩ => ?_)⟩
  obtain ⟨rfl, rfl⟩ := q1
  obtain rfl : u = Value.ref f := r1
  have fo := I1.base.keep f _ hf hfn hfr (fun z => nomatch (show f ∈ ([] : List Addr) from z))
  refine PySem.W.callWith_F0 ⟨_, _, _, _, fo⟩ (wpAny_call ?_)
  have un : Un (frs X.stack) [] H H1 s.heap s1.heap := I1.base
  obtain ⟨⟨oc, vs, t, e1, e2, e3⟩, _, _⟩ := I1.hok c' _ hc
  have run : codeAny (model X.prog X.w) (X.A.deeper (envOfC qg sg s.heap.objs.size g cdg)) (.call (.ref f) ⟨[], []⟩) (CR (L2.CX X.prog X.w) (envOfC qg sg s.heap.objs.size g cdg :: X.stack) X.prog X.w H1 s1 Q (WE W σZ)) s1 := by
    refine PySem.W.kla_callFunE hr.depth fo rfl L.co L.gen rfl ⟨c', oc, vs, t, rfl, e1, e2, e3⟩ ?_
    rw [hbind]
    refine wpAny_pure (wpAny_newFunctionEnv (fun y hy => (L.own y hy).2) (fun y hy => absurd hy (by simp)) (fun h₁ hns hsb => ⟨I1.nolimit.fresh _ hsb, ?_⟩) L.kind)
    have J : Inv (lamCx X (X.A.deeper (envOfC qg sg s.heap.objs.size g cdg)) (envOfC qg sg s.heap.objs.size g cdg :: X.stack) s1 H1 (WE W σZ) scope f c') [] σ H1 { s1 with heap := h₁, toks := s1.toks + ([] : List (Str × Value)).length } :=
      lam_start2 I L I1.env0 hr.hd un hns fun b o e => hsb.extBut b o (Nat.ne_of_lt (Heap.lt_size e)) (Heap.get?_push_of_some _ e)
    show codeAny _ _ (.expr body (lamEnv X scope s1.heap.objs.size f c')) _ _
    exact PySem.W.kla_codeExpr (wpAny_mono ((hbody _ _ _ s1 H1 (hr.deeper _)).run [] _ _ H1 Q J ht) (fun v s' ⟨w', H', J', rv, q⟩ => ⟨w', H', J'.os, J'.bare, J'.base, J'.hok, rv, q⟩) fun e s' hq => hq)
  have hx : PassesAt (L2.CX X.prog X.w) ((cxOf CXg X.prog X.w X.K X.mg X.base Ng qg sg g cdg X.A X.stack s H Eg).tr pn xe) σZ (WE W σZ) := passAt tk σZ
  refine codeAny_mono run fun r s' hq => ?_
  match r, hq with
  | .error e, hq => exact hx pinsZ H1 s1 e s' I1 hq
  | .ok (.ret u), hq => exact I1.after hq
  | .ok .next, hq => exact False.elim hq
  | .ok .brk, hq => exact False.elim hq
  | .ok .cont, hq => exact False.elim hq
/-! ### x(lambda: body, text): a def that calls its first parameter within a try -/
/-- what the def does with the lambda's reading -/
def GivesR (X : Cx) (Ng : List Str) (x : Str) (sg : Scope) (g : Addr) (cdg : Value) (bg : List Stmt) (a : Str) (q : Str) (TT : (XK → Hp → VK → Prop) → Str → Hp → VK → Prop) : Prop :=
  ∀ (f c' : Addr) (s : Shared) (H : Hp) (Q : VK) (tl : XK → Hp → VK → Prop) (z : Str),
    (∀ (W : WX) (pn : List (Addr × Obj)) (xe : Value → Shared → Prop) (p1 p2 : Pos), Takes ((cxOf C8.CX0 X.prog X.w X.K X.mg X.base Ng x sg g cdg X.A X.stack s H C8.E0).tr pn xe) W →
      PE ((cxOf C8.CX0 X.prog X.w X.K X.mg X.base Ng x sg g cdg X.A X.stack s H C8.E0).tr pn xe) (.Call (.Name a p1) [] [] p2) (fun σZ HZ Q => σZ[0]? = some (some (.ref f)) ∧ HZ c' = some (CodeO c' q) ∧ tl (WE W σZ) HZ Q)) →
    H c' = some (CodeO c' q) → TT tl z H Q →
    ∃ t, PSs (cxOf C8.CX0 X.prog X.w X.K X.mg X.base Ng x sg g cdg X.A X.stack s H C8.E0).nox bg t ∧ t { nx := fun _ H' => Q .non H', rt := Q } (L2.start Ng [.ref f, .str z]) H
def tLamR (T : List (Addr × Str)) (TT : (XK → Hp → VK → Prop) → Str → Hp → VK → Prop) (t : XK → TE) (z : Str) : TE := fun σ H Q => Tabs T H ∧ ∀ H1, ExtN H H1 → Tabs T H1 → TT (fun E H' Q' => t E σ H' Q') z H1 Q
theorem pe_lamR {X : Cx} {T : List (Addr × Str)} {TT : (XK → Hp → VK → Prop) → Str → Hp → VK → Prop} {x a b : Str} {g c P : Addr} {k : Nat} {pg : Arguments} {bg : List Stmt} {sg : Scope} {dV kV doc pm cdv ct oc : Value} {an od : Option Addr} {osl : Array (Option Value)} {Ng : List Str}
    {params : Arguments} {body : Expr} {scope : Scope} {t : XK → TE} {p lpos pos zp : Pos} {z : Str} {zk : Nat} (hg : Gl X x) (hm : X.mg x = some (.ref g)) (hk : PySem.W.keepIn X.K (.ref g) = true)
    (lk : X.K.lookup g = some ⟨oc, od, .func (PySem.W.fnOf x x pg bg sg dV kV doc pm an cdv ct), osl⟩) (hcg : PySem.W.codeIn X.K cdv x = true) (hb : L2.Binds X.K (PySem.W.fnOf x x pg bg sg dV kV doc pm an cdv ct) [a, b] []) (Sg : FnScope Ng [a, b] sg) (hNg : Ng[0]? = some a) (hva : Vis sg a)
    (hG : GivesR X Ng x sg g cdv bg a (X.env.qual ++ "<lambda>") TT)
    (TB : TabB X.base X.mg c P) (hcode : X.env.code = .ref c) (hmT : (P, X.env.qual ++ "<lambda>") ∈ T) (hu : ∀ p ∈ T, p.1 = P → p.2 = X.env.qual ++ "<lambda>") (hr : Room (k + 2) X.A) (L : LamS X.env.scope scope) (hdef : defaultsOf params X.env = ([], []))
    (hbind : ∀ (q : Str) (cl : List (Str × Addr)) (pm cv ctv : Value), bindArgs (PySem.W.kla_fn "<lambda>" q params body scope cl pm cv ctv) ⟨[], []⟩ = pure [])
    (hbody : ∀ (A : Around) (outer : List Env) (s : Shared) (H : Hp) (E : XK) (f c' : Addr), Room k (A.deeper (lamEnv X scope s.heap.objs.size f c')) → PE (lamCx X A outer s H E scope f c') body (t E))
    (hdb : (x == ("__debug__" : Str)) = false := by decide) (hd : (a == ("__debug__" : Str)) = false := by decide) (hcd : (a == ("__classdict__" : Str)) = false := by decide) :
    PE X (.Call (.Name x p) [.Lambda params body scope lpos, .Constant (.str z) zk zp] [] pos) (tLamR T TT t z) := by
  refine ⟨fun pins s σ H Q I ⟨hT, h⟩ => wpAny_Call_Name_kw (ld_glob I hg hm (PySem.W.callWith_K (h₀ := X.base) I.ok.mod.kin hk ?_ (by rfl) (by rfl)) hdb)⟩
  show wpAny (model X.prog X.w) X.A (spliced ((false, eval (.Lambda params body scope lpos) X.env) :: (false, eval (.Constant (.str z) zk zp) X.env) :: backTo pos (starEach [] X.env))) _ _ s
  refine Calls.spliced_cons (lam_make2 I TB hcode hmT hu hT hdef (L.has I.ok) fun f c' pm' ctv H1 s' I0 eN T1 hf hfn hfr hco => Calls.spliced_cons (Calls.Constant_str (Calls.spliced_nil ?_)))
  have I1 : Inv X pins σ H1 { s' with toks := s'.toks + 1 } := I0.tok _
  refine ⟨I1.kIn, wpAny_call (codeAny_mono (show codeAny (model X.prog X.w) X.A (.call (.ref g) ⟨[.ref f, .str z s'.toks], []⟩) (CR C8.CX0 X.stack X.prog X.w H1 { s' with toks := s'.toks + 1 } Q C8.E0) { s' with toks := s'.toks + 1 } from ?_) fun r s2 hq => ?_)⟩
  · refine run_ofS (N := Ng) (ps := [a, b]) (us := [.ref f, .str z s'.toks]) (vs := [.ref f, .str z]) lk hcg Sg hr I1.env0 (hb _ [.ref f, .str z s'.toks] I1.kIn rfl) (.cons rfl (.cons ⟨_, rfl⟩ .nil)) rfl fun hr' => ?_
    obtain ⟨t', ht', hq'⟩ := hG f c' { s' with toks := s'.toks + 1 } H1 Q (fun E H' Q' => t E σ H' Q') z (fun W pn xe p1 p2 tk => pe_actW (i := 0) (tb := fun E => t E) I1 L hf hfn hfr (hbind _ _ _ _ _) tk hr' (fun E A outer s H hr2 => hbody A outer s H E f c' hr2) hNg hva hd hcd) hco (h H1 eN T1)
    exact ⟨t', ht'.nox, hq'⟩
  · match r, hq with
    | .error e, hq => exact (show False from hq).elim
    | .ok (.ret u), hq => exact I1.after hq
    | .ok .next, hq => exact False.elim hq
    | .ok .brk, hq => exact False.elim hq
    | .ok .cont, hq => exact False.elim hq
/-! ### told: refused with just this text -/
/-- what the written part says of the classes that the refusal asks for -/
structure RefTxt (K : PySem.W.Frag) (mg : Str → Option Value) (C Hb c1 c2 c3 c4 : Addr) : Prop where
  gH : mg "HarbourError" = some (.ref Hb)
  gC : mg "BadValue" = some (.ref C)
  g1 : mg "TooMany" = some (.ref c1)
  g2 : mg "NoStory" = some (.ref c2)
  g3 : mg "Over" = some (.ref c3)
  g4 : mg "DeskError" = some (.ref c4)
  gV : mg "ValueError" = none
  gI : mg "isinstance" = none
  gS : mg "str" = none
  ec : ExcC K C
  xf : XfC K C
  noW : PySem.W.findIn K (.ref C) "where" = some none
  ex : PySem.W.exmOne K (.ref C) (.ref Hb) = some true
  kV : PySem.W.kitOne K (.ref C) (.type "ValueError") = some true
  kC : PySem.W.kitOne K (.ref C) (.ref C) = some true
  k1 : PySem.W.kitOne K (.ref C) (.ref c1) = some false
  k2 : PySem.W.kitOne K (.ref C) (.ref c2) = some false
  k3 : PySem.W.kitOne K (.ref C) (.ref c3) = some false
  k4 : PySem.W.kitOne K (.ref C) (.ref c4) = some false
  kS : PySem.W.kitOne K (.type "str") (.type "str") = some true
/-- the suite: e in slot 2, its dict at dd, where in slot 1 -/
def tIsX (K : PySem.W.Frag) (C a dd : Addr) (c : V) : TE := tCB (rIsX K C a dd) (tCons (tVar 2) (tCons (tC c) tNil))
def tRefS (K : PySem.W.Frag) (C c1 c2 c3 c4 a dd : Addr) : TS :=
  tSeq (tIfS (tOr (tNot (tB (tIsX K C a dd (.ty "ValueError")))) (tNot (tB (tIsX K C a dd (.ref C))))) (tRet (tC (.bl false))) tNext)
    (tSeq (tIfS (tOr (tB (tIsX K C a dd (.ref c1))) (tOr (tB (tIsX K C a dd (.ref c2))) (tOr (tB (tIsX K C a dd (.ref c3))) (tB (tIsX K C a dd (.ref c4)))))) (tRet (tC (.bl false))) tNext)
      (tRet (tAndV (tCB (rIsi K) (tCons (tXf a (.ref C) (some dd) C "where" (tVar 2)) (tCons (tC (.ty "str")) tNil))) (tOp rEq (tXf a (.ref C) (some dd) C "where" (tVar 2)) (tVar 1)))))
theorem tRefS_ok {K : PySem.W.Frag} {mg : Str → Option Value} {C Hb c1 c2 c3 c4 a dd : Addr} (T : RefTxt K mg C Hb c1 c2 c3 c4) {σ : L2.St} {H : Hp} {D : Ends} {z z2 : Str} (h1 : σ[1]? = some (some (.str z2))) (h2 : σ[2]? = some (some (.ref a))) (hd : H dd = some (.xd [("where", .str z)])) (q : D.rt (.bl (z == z2)) H) : tRefS K C c1 c2 c3 c4 a dd D σ H := by
  have isx : ∀ (c : V) (cv : Value) (b : Bool) (Q : VK), (∀ u, RelV c u → u = cv) → PySem.W.kitOne K (.ref C) cv = some b → Q (.bl b) H → tIsX K C a dd c σ H Q := fun c cv b Q e1 e2 q => ⟨_, h2, c, cv, b, _, rfl, e1, e2, hd, q⟩
  have tyE : ∀ n u, RelV (.ty n) u → u = .type n := fun n u r => r
  have rfE : ∀ n u, RelV (.ref n) u → u = .ref n := fun n u r => r
  have fld : ∀ Q : VK, Q (.str z) H → tXf a (.ref C) (some dd) C "where" (tVar 2) σ H Q := fun Q q => ⟨_, h2, rfl, rfl, dd, _, _, rfl, hd, by simp [List.lookup], q⟩
  refine isx _ _ _ _ (tyE _) T.kV ⟨true, rfl, isx _ _ _ _ (rfE _) T.kC ⟨true, rfl, ?_⟩⟩
  refine isx _ _ _ _ (rfE _) T.k1 ⟨false, rfl, isx _ _ _ _ (rfE _) T.k2 ⟨false, rfl, isx _ _ _ _ (rfE _) T.k3 ⟨false, rfl, isx _ _ _ _ (rfE _) T.k4 ⟨false, rfl, ?_⟩⟩⟩⟩
  refine fld _ ⟨_, _, _, _, true, rfl, .ty _, .base (.str _), T.kS, true, rfl, ?_⟩
  rw [if_pos rfl]
  refine fld _ ⟨_, h1, rfl, ?_⟩
  have e : decide (V.str z = V.str z2) = (z == z2) := by rw [Bool.eq_iff_iff]; simp
  rw [e]
  exact q
/-- the refusal's reading -/
def TRef (C : Addr) : (XK → Hp → VK → Prop) → Str → Hp → VK → Prop := fun tl z2 H Q =>
  ∀ E : XK, (∀ cls dx H', (∃ dd z, cls = .ref C ∧ dx = some dd ∧ H' dd = some (.xd [("where", .str z)]) ∧ Q (.bl (z == z2)) H') → E cls dx H') → tl E H fun _ H' => Q (.bl false) H'
section
variable {Γ : Gm} {Fz : AS} {H H1 : Hp}
theorem out_ext (t : ∀ a, Fz a → Trk H a) (e : ExtN H H1) (b : Tabs Γ.T H1) : Out Γ Fz H none0 Fz H1 where
  keep := fun c o ec _ nt => e c o ec nt
  there := fun c ⟨o, ec, nt⟩ => ⟨o, e c o ec nt, nt⟩
  up := fun _ z => z
  new := fun _ z => .inl z
  trk := fun c z => let ⟨o, ec, nt⟩ := t c z; ⟨o, e c o ec nt, nt⟩
  tabs := b
/-- refused: p, then is it a BadValue of this text -/
def pRef (p : Pm) (z2 : Str) : Pm := fun ρ => match p ρ with
  | .ok _ => .ok (.bl false)
  | .exn x => if x.cls = "BadValue" ∧ x.fld = "where" then match x.arg with
      | .str z => .ok (.bl (z == z2))
      | _ => .stuck
    else .stuck
  | .stuck => .stuck
theorem imp_ref {W : WX} {p : Pm} {z2 : Str} {σ : L2.St} {Q : VK} {C : Addr} (hC : Γ.cm "BadValue" = C) (h : tP Γ W (pRef p z2) σ H Q) : tLamR Γ.T (TRef C) (fun E => tP Γ (fun cls d _ H => E cls d H) p) z2 σ H Q := by
  obtain ⟨Fz, ρ, L, S, h⟩ := h
  refine ⟨S.tabs, fun H1 eN T1 => ?_⟩
  have o1 := out_ext (Γ := Γ) S.trk eN T1
  unfold pRef at h
  intro E hE
  refine ⟨Fz, ρ, L, S.grow o1, ?_⟩
  cases e1 : p ρ with
  | stuck => rw [e1] at h; exact h
  | ok d =>
    rw [e1] at h
    intro v H' Fz' Ld o r n
    exact h (.bl false) H' Fz' [] (o1.trans0 o) (.bl false) fun a z => nomatch z
  | exn x =>
    rw [e1] at h
    dsimp only at h
    intro cls dx H' Fz' o xr
    by_cases c : x.cls = "BadValue" ∧ x.fld = "where"
    case neg => rw [if_neg c] at h; exact h.elim
    rw [if_pos c] at h
    obtain ⟨a, v, e2, e3, e4⟩ := xr.dict
    cases ea : x.arg <;> rw [ea] at h e4 <;> first | exact h.elim | skip
    rename_i z
    obtain ⟨rfl, _⟩ := e4.str_v
    refine hE cls dx H' ⟨a, z, by rw [xr.cls, c.1, hC], e2, by rw [e3, c.2], ?_⟩
    exact h (.bl (z == z2)) H' Fz' [] (o1.trans0 o) (.bl _) fun a z => nomatch z
end
end DL

namespace DL
open PySem PySem.Spec L2
section
variable {Γ : Gm} {P : Program} {w : World} {mg : Str → Option Value} {base : Heap}
/-- a def whose body makes lambdas: its code object at c, the table at tp -/
structure LamD (Γ : Gm) (mg : Str → Option Value) (base : Heap) (qual : Str) (c tp : Addr) : Prop where
  tab : LamX.TabB base mg c tp
  mem : (tp, qual ++ ".<locals>." ++ "<lambda>") ∈ Γ.T
  one : ∀ p ∈ Γ.T, p.1 = tp → p.2 = qual ++ ".<locals>." ++ "<lambda>"
theorem fnLO_mk {x qual : Str} {st : Stmt} {f c : Addr} {oc kV doc pm ct : Value} {od an : Option Addr} {osl : Array (Option Value)} {N ps : List Str} {k n : Nat} {mu : List Bool} {b : Sm} (lk : Γ.K.lookup f = some ⟨oc, od, .func (PySem.W.fnOf x qual (defArgs st) (defBody st) (defScope st) .none kV doc pm an (.ref c) ct), osl⟩) (hcd : PySem.W.codeIn Γ.K (.ref c) qual = true) (S : FnScope N ps (defScope st)) (hps : ps.length = mu.length) (hN : N.length = mu.length + n)
    (body : ∀ (A : Around) (outer : List Env) (s : Shared) (H : Hp) (E : XK), Room k (A.deeper (PyProof.Rows.envOfC qual (defScope st) s.heap.objs.size f (.ref c))) → PSs (cxOf (L2.CX P w) P w Γ.K mg base N qual (defScope st) f (.ref c) A outer s H E) (defBody st) (tS Γ (fun cls d _ H => E cls d H) b)) :
    FnOk P w Γ.K mg base (L2.CX P w) (k + 1) f (PySem.W.fnOf x qual (defArgs st) (defBody st) (defScope st) .none kV doc pm an (.ref c) ct) ps (spD Γ mu mu.length (bodyG mu n b)) :=
  fn_of lk hcd S (fun vs H Q E h => by rw [h.1, hps]) fun A outer s H vs Q E hr h => ⟨_, body A outer s H E hr, body_ok hN h⟩
theorem fnL_mk {x qual : Str} {st : Stmt} {f c : Addr} {oc kV doc pm ct : Value} {od an : Option Addr} {osl : Array (Option Value)} {N ps : List Str} {k n : Nat} {mu : List Bool} {b : Sm} (lk : Γ.K.lookup f = some ⟨oc, od, .func (PySem.W.fnOf x qual (defArgs st) (defBody st) (defScope st) .none kV doc pm an (.ref c) ct), osl⟩) (hcd : PySem.W.codeIn Γ.K (.ref c) qual = true) (hk : PySem.W.keepIn Γ.K (.ref f) = true) (S : FnScope N ps (defScope st)) (hps : ps.length = mu.length) (hN : N.length = mu.length + n)
    (hb : Binds Γ.K (PySem.W.fnOf x qual (defArgs st) (defBody st) (defScope st) .none kV doc pm an (.ref c) ct) ps []) (hm : mg x = some (.ref f))
    (body : ∀ (A : Around) (outer : List Env) (s : Shared) (H : Hp) (E : XK), Room k (A.deeper (PyProof.Rows.envOfC qual (defScope st) s.heap.objs.size f (.ref c))) → PSs (cxOf (L2.CX P w) P w Γ.K mg base N qual (defScope st) f (.ref c) A outer s H E) (defBody st) (tS Γ (fun cls d _ H => E cls d H) b)) :
    FnD P w Γ.K mg base Γ (k + 1) x mu mu.length (bodyG mu n b) := ⟨f, _, ps, fnLO_mk lk hcd S hps hN body, hm, hk, hb⟩
end
/-- the def that refuses, as its caller needs it -/
structure RefD (K : PySem.W.Frag) (mg : Str → Option Value) (x a b : Str) (Ng : List Str) (C : Addr) (st : Stmt) : Prop where
  ex : ∃ (g : Addr) (oc kV doc pm cdv ct : Value) (od an : Option Addr) (osl : Array (Option Value)), mg x = some (.ref g) ∧ PySem.W.keepIn K (.ref g) = true ∧
    K.lookup g = some ⟨oc, od, .func (PySem.W.fnOf x x (defArgs st) (defBody st) (defScope st) .none kV doc pm an cdv ct), osl⟩ ∧ PySem.W.codeIn K cdv x = true ∧ L2.Binds K (PySem.W.fnOf x x (defArgs st) (defBody st) (defScope st) .none kV doc pm an cdv ct) [a, b] []
  sc : FnScope Ng [a, b] (defScope st)
  n0 : Ng[0]? = some a
  va : Vis (defScope st) a
  gv : ∀ (X : Cx) (g : Addr) (cdg : Value) (q : Str), X.K = K → X.mg = mg → GivesR X Ng x (defScope st) g cdg (defBody st) a q (TRef C)
theorem rp_ref {Γ : Gm} {W : WX} {X : Cx} {x a b qual : Str} {Ng : List Str} {C c tp : Addr} {st : Stmt} {p1 : Pm} {params : Arguments} {body : Expr} {scope : Scope} {p lpos pos zp : Pos} {z : Str} {zk k : Nat} (R : RefD X.K X.mg x a b Ng C st) (hC : Γ.cm "BadValue" = C) (TB : LamD Γ X.mg X.base qual c tp) (hq : X.env.qual = qual ++ ".<locals>.") (hcode : X.env.code = .ref c) (hr : Room (k + 2) X.A)
    (hbody : ∀ (A : Around) (outer : List Env) (s : Shared) (H : Hp) (E : XK) (f c' : Addr), Room k (A.deeper (LamX.lamEnv X scope s.heap.objs.size f c')) → Takes (LamX.lamCx X A outer s H E scope f c') (fun cls d _ H => E cls d H) → PE (LamX.lamCx X A outer s H E scope f c') body (tP Γ (fun cls d _ H => E cls d H) p1))
    (L : LamX.LamS X.env.scope scope) (hg : Gl X x := by rfl) (hdef : defaultsOf params X.env = ([], []) := by rfl)
    (hbind : ∀ (q : Str) (cl : List (Str × Addr)) (pm cv ctv : Value), bindArgs (PySem.W.kla_fn "<lambda>" q params body scope cl pm cv ctv) ⟨[], []⟩ = pure [] := by intros; rfl)
    (hdb : (x == ("__debug__" : Str)) = false := by decide) (hd : (a == ("__debug__" : Str)) = false := by decide) (hcd : (a == ("__classdict__" : Str)) = false := by decide) :
    PE X (.Call (.Name x p) [.Lambda params body scope lpos, .Constant (.str z) zk zp] [] pos) (tP Γ W (pRef p1 z)) := by
  obtain ⟨g, oc, kV, doc, pm, cdv, ct, od, an, osl, h1, h2, h3, h4, h5⟩ := R.ex
  refine PEi (pe_lamR (t := fun E => tP Γ (fun cls d _ H => E cls d H) p1) hg h1 h2 h3 h4 h5 R.sc R.n0 R.va (R.gv X g cdv _ rfl rfl) TB.tab hcode (by rw [hq]; exact TB.mem) (fun q hq' e => by rw [hq]; exact TB.one q hq' e) hr L hdef hbind (fun A outer s H E f c' hr => hbody A outer s H E f c' hr (takes_of rfl rfl rfl rfl)) hdb hd hcd) fun σ H Q h => imp_ref hC h
/-- the law's start, where tables stand empty -/
theorem law_spT {Γ : Gm} {G : Gf} {H : Hp} {a : Addr} {ns : List Int} (hT : ∀ p ∈ Γ.T, H p.1 = some (.tbl #[])) (hS : SqL Γ.K H a (ns.map V.int)) (h : ∀ f : Fl, f = .kon ∨ f = .shr → G [.lst f (ns.map .int)] = .ok (.bl true, [])) : spD Γ [false] 1 G [.ref a] H (fun v _ => v = .bl true) fun _ _ _ => False := by
  have tb : LamX.Tabs Γ.T H := fun p hp => LamX.TabS.nil (hT p hp)
  have go : ∀ (f : Fl) (Fz : AS), (f = .kon ∨ f = .shr) → Rep Γ Fz none0 H (.ref a) (.lst f (ns.map .int)) [] → (∀ b, Fz b → Trk H b) → spD Γ [false] 1 G [.ref a] H (fun v _ => v = .bl true) fun _ _ _ => False := fun f Fz hf r tk => by
    refine ⟨rfl, Fz, [.lst f (ns.map .int)], [], .cons (L1 := []) (L2 := []) r .nil (fun _ z => nomatch z) rfl, (fun _ z => nomatch z), tk, tb, ?_⟩
    rw [h f hf]
    intro v H' Fz' Ld Lm o r _ _ _ _
    exact r.isBl
  rcases hS with (e | e) | e
  · exact go .shr (· = a) (.inr rfl) (.lstS rfl ⟨e, rfl⟩ (reps_ints ns)) fun b z => by subst z; exact ⟨_, e, fun ps q => by cases q⟩
  · exact go .kon none0 (.inl rfl) (.lstK (.inl e) (reps_ints ns)) fun b z => z.elim
  · exact go .kon none0 (.inl rfl) (.lstK (.inr e) (reps_ints ns)) fun b z => z.elim
end DL

namespace DL
open PySem PySem.Spec L2
/-! ### xs.m(e): methods of lists that only read -/
def isLst : D → Bool
  | .lst _ _ => true
  | _ => false
def pMet (f : D → List D → Option D) (p : Pm) (q : PA') : Pm := fun ρ => (p ρ).bind fun d => if isLst d then (q ρ).bind fun ds => R.of (f d ds) else .stuck
section
variable {Γ : Gm} {W : WX} {X : Cx} {p : Pm} {q : PA'} {o e : Expr} {es : List Expr} {f : D → List D → Option D} {name : Str} {id : String} {apos cpos : Pos}
theorem imp_met {σ : L2.St} {H : Hp} {Q : VK} (hK : X.K = Γ.K) (h : tP Γ W (pMet f p q) σ H Q) : tBM X.K "list" (rDM Γ f) (tP Γ W p) (tPA Γ W q) σ H Q := by
  obtain ⟨Fz, ρ, L, S, h⟩ := h
  unfold pMet at h
  refine ⟨Fz, ρ, L, S, ?_⟩
  cases e1 : p ρ with
  | stuck => rw [e1] at h; exact h
  | exn x => rw [e1] at h; exact h
  | ok d1 =>
    rw [e1, R.bind] at h
    intro v1 H1 Fz1 L1 o1 r1 n1
    by_cases c : isLst d1 = true
    case neg => rw [if_neg c] at h; exact h.elim
    rw [if_pos c] at h
    have ty : tyV X.K "list" v1 H1 := by
      cases d1 <;> first | (cases c; done) | skip
      obtain ⟨a, vs, La, rfl, h1, h2, h3⟩ := r1.lst_r
      exact .inl ⟨rfl, vs, by rw [hK]; exact h1⟩
    refine ⟨ty, Fz1, ρ, L, S.grow o1, ?_⟩
    cases e2 : q ρ with
    | stuck => rw [e2] at h; exact h
    | exn x => rw [e2] at h; intro cls dx H' Fz' o2 xr; exact h cls dx H' Fz' (o1.trans0 o2) xr
    | ok ds =>
      rw [e2, R.bind] at h
      intro v2 H2 Fz2 L2 o2 r2 n2
      have o := o1.trans0 o2
      refine ⟨Fz2, Bo L Fz2, d1, ds, L1, L2, r1.out0 o2 (bo_up o2.up), r2, fun a ha z => (n2 a z).1 (r1.wr a ha).trk, ?_⟩
      cases e3 : f d1 ds with
      | none => rw [e3] at h; exact h.elim
      | some d =>
        rw [e3] at h
        intro z H' Ld sm rz fz
        refine fin_op (L1 := L1 ++ L2) S o (fun a ha => ?_) h sm rz fun a ha => (fz a ha).elim (fun z => .inl (List.mem_append_left _ z)) fun z => z.elim (fun z => .inl (List.mem_append_right _ z)) .inr
        rcases List.mem_append.mp ha with z | z
        · exact ⟨(n1 a z).1, fun u => by
            rcases o2.new a u with w | w | w
            · exact (n1 a z).2 w
            · exact w
            · exact w (r1.wr a z).trk⟩
        · exact ⟨fun t => (n2 a z).1 (o1.there a t), (n2 a z).2⟩
theorem rp_met (hK : X.K = Γ.K) (slot : PySem.Slot "list" name id) (hty : typeOf (.builtin id) = pure (.type "method_descriptor")) (hm : MtR X id (rDM Γ f)) (ho : PE X o (tP Γ W p)) (ha : PA X (e :: es) (tPA Γ W q))
    (hbase : attributeBase o name X.env (eval o X.env) = eval o X.env := by rfl)
    (hfew : ((backTo cpos (starEach (e :: es) X.env)).all (fun x => !x.1) && (backToKw cpos (keywordEach [] X.env)).all (fun x => x.1.isSome) && decide ((e :: es).length + ([] : List Keyword).length + (if ([] : List Keyword).isEmpty then 0 else 1) < 30)) = true := by rfl)
    (hline : (apos.endLine == cpos.line) = true := by rfl) (hs : starEach (e :: es) X.env = (false, eval e X.env) :: starEach es X.env := by rfl) (hplain : (backTo cpos (starEach es X.env)).any (·.1) = false := by rfl) :
    PE X (.Call (.Attribute o name apos) (e :: es) [] cpos) (tP Γ W (pMet f p q)) := PEi (pe_bm PySem.F.plainAttrs_list slot hty hm ho ha hbase hfew hline hs hplain) fun _ _ _ h => imp_met hK h
def mCount : D → List D → Option D
  | .lst _ xs, [.int k] => (dints xs).map fun ns => .int (ns.count k : Nat)
  | _, _ => none
theorem rm_count (hK : X.K = Γ.K) : MtR X "list.count" (rDM Γ mCount) := by
  intro pins s σ H x xs v us Q I rx rxs h
  obtain ⟨Fz, Bz, d0, ds, L0, L1, r0, r1, dj, h⟩ := h
  match d0, ds, r0, r1, h with
  | .lst g ys, [.int k], r0, r1, h =>
    obtain ⟨a, vs, La, rfl, h1, h2, h3⟩ := r0.lst_r
    obtain ⟨w, rfl, rw'⟩ := r1.one
    obtain ⟨rfl, rfl⟩ := rw'.int_v
    cases e : dints ys with
    | none => simp only [mCount, e, Option.map_none] at h
    | some ns =>
      simp only [mCount, e, Option.map_some] at h
      rw [ints_of e] at h2
      have ev := h2.dints
      subst ev
      exact mt_lcount pins s σ H _ _ v us Q I rx rxs ⟨a, ns, k, rfl, rfl, by rw [hK]; exact h1, h _ H [] Same.refl' (.int _) fun b z => nomatch z⟩
end
end DL

namespace DL
open PySem PySem.Spec L2
section
variable {Γ : Gm} {W : WX} {X : Cx} {s : Sm}
/-- slots are forgotten behind a statement; none of them pinned -/
def wipF (is : List Nat) : Fw → R Fw
  | .nx ρ => if freeAt ρ is then .ok (.nx (wipeD ρ is)) else .stuck
  | .bk ρ => if freeAt ρ is then .ok (.bk (wipeD ρ is)) else .stuck
  | .ct ρ => if freeAt ρ is then .ok (.ct (wipeD ρ is)) else .stuck
  | .rt d ρ => .ok (.rt d ρ)
def sWipA (is : List Nat) (m : Sm) : Sm := fun ρ => (m ρ).bind (wipF is)
theorem sOut_wipe {Fz : AS} {H : Hp} {L : List Addr} {ρ ρ' : List Sl} {σ : L2.St} {is : List Nat} {Q : L2.St → Hp → Prop} (c : freeAt ρ' is = true) (q : SOut Γ Fz H L ρ σ (wipeD ρ' is) Q) : SOut Γ Fz H L ρ σ ρ' Q := by
  intro σ' H' Fz' L' o' S' k' p'
  obtain ⟨L1, S1, h1⟩ := S'.wipe is
  refine q σ' H' Fz' L1 o' S1 (fun a z => k' a (h1 a z)) fun j d e => ?_
  obtain ⟨h2, d', h3⟩ := p' j d e
  refine ⟨h2, d', ?_⟩
  rw [wipeD_get, if_neg]
  · exact h3
  · intro z
    have := List.all_eq_true.mp c j z.1
    rw [h3] at this
    cases this
theorem imp_wipA {is : List Nat} {D : Ends} {σ : L2.St} {H : Hp} (q : tS Γ W (sWipA is s) D σ H) : tS Γ W s D σ H := by
  obtain ⟨Fz, ρ, L, S, q⟩ := q
  unfold sWipA at q
  refine ⟨Fz, ρ, L, S, ?_⟩
  cases e1 : s ρ with
  | stuck => rw [e1] at q; exact q
  | exn x => rw [e1] at q; exact q
  | ok f =>
    rw [e1, R.bind] at q
    cases f with
    | rt d ρ' => exact q
    | nx ρ' =>
      dsimp only [wipF] at q
      by_cases c : freeAt ρ' is = true
      · rw [if_pos c] at q; exact sOut_wipe (Q := D.nx) c q
      · rw [if_neg c] at q; exact q.elim
    | bk ρ' =>
      dsimp only [wipF] at q
      by_cases c : freeAt ρ' is = true
      · rw [if_pos c] at q; exact sOut_wipe (Q := D.bk) c q
      · rw [if_neg c] at q; exact q.elim
    | ct ρ' =>
      dsimp only [wipF] at q
      by_cases c : freeAt ρ' is = true
      · rw [if_pos c] at q; exact sOut_wipe (Q := D.ct) c q
      · rw [if_neg c] at q; exact q.elim
theorem rs_wipA {st : Stmt} (is : List Nat) (h : PS X st (tS Γ W s)) : PS X st (tS Γ W (sWipA is s)) := PSi h fun _ _ _ q => imp_wipA q
theorem rss_wipA {st : List Stmt} (is : List Nat) (h : PSs X st (tS Γ W s)) : PSs X st (tS Γ W (sWipA is s)) := PSsi h fun _ _ _ q => imp_wipA q
end
end DL

namespace DL
open PySem PySem.Spec PyProof.Rows L2 LamX
/-! ### x(lambda: body, e): the second argument reckoned -/
def tLamV (T : List (Addr × Str)) (TT : (XK → Hp → VK → Prop) → Str → Hp → VK → Prop) (t : XK → TE) (t2 : TE) : TE := fun σ H Q => Tabs T H ∧ ∀ H1, ExtN H H1 → Tabs T H1 →
  t2 σ H1 fun v H2 => ∃ z, v = .str z ∧ (∀ c q, H1 c = some (CodeO c q) → H2 c = some (CodeO c q)) ∧ TT (fun E H' Q' => t E σ H' Q') z H2 Q
theorem kla_pin {X : Cx} {pins : List (Addr × Obj)} {σ : L2.St} {H : Hp} {s : Shared} {f c' : Addr} {n q : Str} {params : Arguments} {body : Expr} {scope : Scope} {cl : List (Str × Addr)} {pm ctv : Value} (I : Inv X pins σ H s)
    (hf : s.heap.get? f = some (PySem.W.kla_obj n q params body scope cl pm c' ctv)) (hfn : H f = none) (hfr : f ∉ frs X.stack) : Inv X ((f, PySem.W.kla_obj n q params body scope cl pm c' ctv) :: pins) σ H s := by
  have hl : f ≠ X.env.locals := fun z => by
    obtain ⟨m, ⟨o', es, ep, ho', hd', _⟩, _⟩ := I.loc
    rw [← z, hf] at ho'
    cases ho'
    cases hd'
  have hx : f ∉ X.fs := fun z => by
    rcases I.ok.stk with e | ⟨e, e2⟩
    · exact hfr (by rw [e]; exact z)
    · refine hfr ?_
      rw [e]
      unfold frs
      rw [List.filterMap_cons, e2]
      exact List.mem_cons_of_mem _ z
  refine I.pins_of fun p hp => ?_
  rcases List.mem_cons.mp hp with z | z
  · subst z
    exact ⟨hf, hfn, hl, hx, fun v e => by cases e⟩
  · exact I.pin p (List.mem_append_right _ z)
theorem pe_lamV {X : Cx} {T : List (Addr × Str)} {TT : (XK → Hp → VK → Prop) → Str → Hp → VK → Prop} {x a b : Str} {g c P : Addr} {k : Nat} {pg : Arguments} {bg : List Stmt} {sg : Scope} {dV kV doc pm cdv ct oc : Value} {an od : Option Addr} {osl : Array (Option Value)} {Ng : List Str}
    {params : Arguments} {body e2 : Expr} {scope : Scope} {t : XK → TE} {t2 : TE} {p lpos pos : Pos} (h2 : PE X e2 t2) (hg : Gl X x) (hm : X.mg x = some (.ref g)) (hk : PySem.W.keepIn X.K (.ref g) = true)
    (lk : X.K.lookup g = some ⟨oc, od, .func (PySem.W.fnOf x x pg bg sg dV kV doc pm an cdv ct), osl⟩) (hcg : PySem.W.codeIn X.K cdv x = true) (hb : L2.Binds X.K (PySem.W.fnOf x x pg bg sg dV kV doc pm an cdv ct) [a, b] []) (Sg : FnScope Ng [a, b] sg) (hNg : Ng[0]? = some a) (hva : Vis sg a)
    (hG : ∀ q, GivesR X Ng x sg g cdv bg a q TT)
    (TB : TabB X.base X.mg c P) (hcode : X.env.code = .ref c) (hmT : (P, X.env.qual ++ "<lambda>") ∈ T) (hu : ∀ p ∈ T, p.1 = P → p.2 = X.env.qual ++ "<lambda>") (hr : Room (k + 2) X.A) (L : LamS X.env.scope scope) (hdef : defaultsOf params X.env = ([], []))
    (hbind : ∀ (q : Str) (cl : List (Str × Addr)) (pm cv ctv : Value), bindArgs (PySem.W.kla_fn "<lambda>" q params body scope cl pm cv ctv) ⟨[], []⟩ = pure [])
    (hbody : ∀ (A : Around) (outer : List Env) (s : Shared) (H : Hp) (E : XK) (f c' : Addr), Room k (A.deeper (lamEnv X scope s.heap.objs.size f c')) → PE (lamCx X A outer s H E scope f c') body (t E))
    (hse : starEach [e2] X.env = [(false, eval e2 X.env)])
    (hdb : (x == ("__debug__" : Str)) = false := by decide) (hd : (a == ("__debug__" : Str)) = false := by decide) (hcd : (a == ("__classdict__" : Str)) = false := by decide) :
    PE X (.Call (.Name x p) [.Lambda params body scope lpos, e2] [] pos) (tLamV T TT t t2) := by
  have hpl : (backTo pos (starEach [e2] X.env)).any (·.1) = false := by rw [hse]; rfl
  refine ⟨fun pins s σ H Q I ⟨hT, h⟩ => wpAny_Call_Name_kw (ld_glob I hg hm (PySem.W.callWith_K (h₀ := X.base) I.ok.mod.kin hk ?_ (by rfl) hpl) hdb)⟩
  show wpAny (model X.prog X.w) X.A (spliced ((false, eval (.Lambda params body scope lpos) X.env) :: backTo pos (starEach [e2] X.env))) _ _ s
  rw [hse]
  show wpAny (model X.prog X.w) X.A (spliced ((false, eval (.Lambda params body scope lpos) X.env) :: (false, eval e2 X.env) :: [])) _ _ s
  refine Calls.spliced_cons (lam_make2 I TB hcode hmT hu hT hdef (L.has I.ok) fun f c' pm' ctv H1 s' I0 eN T1 hf hfn hfr hco => Calls.spliced_cons (thn (h2.run _ s' σ H1 _ (kla_pin I0 hf hfn hfr) (h H1 eN T1)) fun u s2 ⟨v, H2, I2, r2, z, ev, kc, h3⟩ => Calls.spliced_nil ?_))
  subst ev
  have pf := I2.pin (f, _) (List.mem_append_right _ List.mem_cons_self)
  have I1 : Inv X pins σ H2 s2 := I2.pins_of fun p hp => I2.pin p (List.mem_append_right _ (List.mem_cons_of_mem _ hp))
  have hco2 := kc _ _ hco
  refine ⟨I1.kIn, wpAny_call (codeAny_mono (show codeAny (model X.prog X.w) X.A (.call (.ref g) ⟨[.ref f, u], []⟩) (CR C8.CX0 X.stack X.prog X.w H2 s2 Q C8.E0) s2 from ?_) fun r s3 hq => ?_)⟩
  · refine run_ofS (N := Ng) (ps := [a, b]) (us := [.ref f, u]) (vs := [.ref f, .str z]) lk hcg Sg hr I1.env0 (hb _ [.ref f, u] I1.kIn rfl) (.cons rfl (.cons r2 .nil)) rfl fun hr' => ?_
    obtain ⟨t', ht', hq'⟩ := hG _ f c' s2 H2 Q (fun E H' Q' => t E σ H' Q') z (fun W pn xe p1 p2 tk => pe_actW (i := 0) (tb := fun E => t E) I1 L pf.1 pf.2.1 hfr (hbind _ _ _ _ _) tk hr' (fun E A outer s H hr2 => hbody A outer s H E f c' hr2) hNg hva hd hcd) hco2 h3
    exact ⟨t', ht'.nox, hq'⟩
  · match r, hq with
    | .error e, hq => exact (show False from hq).elim
    | .ok (.ret u), hq => exact I1.after hq
    | .ok .next, hq => exact False.elim hq
    | .ok .brk, hq => exact False.elim hq
    | .ok .cont, hq => exact False.elim hq

/-- .. where the text is reckoned -/
def pRefE (p p2 : Pm) : Pm := fun ρ => (p2 ρ).bind fun d => match d with
  | .str z => pRef p z ρ
  | _ => .stuck
theorem imp_refE {Γ : Gm} {W : WX} {p p2 : Pm} {σ : L2.St} {H : Hp} {Q : VK} {C : Addr} (hC : Γ.cm "BadValue" = C) (h : tP Γ W (pRefE p p2) σ H Q) : tLamV Γ.T (TRef C) (fun E => tP Γ (fun cls d _ H => E cls d H) p) (tP Γ W p2) σ H Q := by
  obtain ⟨Fz, ρ, L, S, h⟩ := h
  refine ⟨S.tabs, fun H1 eN T1 => ?_⟩
  have o1 := out_ext (Γ := Γ) S.trk eN T1
  unfold pRefE at h
  refine ⟨Fz, ρ, L, S.grow o1, ?_⟩
  cases e1 : p2 ρ with
  | stuck => rw [e1] at h; exact h
  | exn x =>
    rw [e1] at h
    intro cls dx H' Fz' o xr
    exact h cls dx H' Fz' (o1.trans0 o) xr
  | ok d =>
    rw [e1, R.bind] at h
    cases d <;> first | exact h.elim | skip
    rename_i z
    intro v H2 Fz2 Ld o r n
    obtain ⟨rfl, _⟩ := r.str_v
    have o2 := o1.trans0 o
    refine ⟨z, rfl, fun c q e => o.keep _ _ e (fun z => z) codeO_ne, ?_⟩
    have h' : tP Γ W (pRef p z) σ H2 Q := by
      refine ⟨Fz2, ρ, L, S.grow o2, ?_⟩
      dsimp only at h
      cases e3 : pRef p z ρ with
      | stuck => rw [e3] at h; exact h
      | exn x =>
        rw [e3] at h
        intro cls dx H' Fz' o3 xr
        exact h cls dx H' Fz' (o2.trans0 o3) xr
      | ok d =>
        rw [e3] at h
        intro v H3 Fz3 L3 o3 r3 n3
        exact h v H3 Fz3 L3 (o2.trans0 o3) r3 fun a ha => ⟨fun t => (n3 a ha).1 (o2.there a t), (n3 a ha).2⟩
    exact (imp_ref hC h').2 H2 (ExtN.refl H2) (S.grow o2).tabs
theorem rp_refE {Γ : Gm} {W : WX} {X : Cx} {x a b qual : Str} {Ng : List Str} {C c tp : Addr} {st : Stmt} {p1 p2 : Pm} {params : Arguments} {body e2 : Expr} {scope : Scope} {p lpos pos : Pos} {k : Nat} (R : RefD X.K X.mg x a b Ng C st) (hC : Γ.cm "BadValue" = C) (TB : LamD Γ X.mg X.base qual c tp) (hq : X.env.qual = qual ++ ".<locals>.") (hcode : X.env.code = .ref c) (hr : Room (k + 2) X.A)
    (hbody : ∀ (A : Around) (outer : List Env) (s : Shared) (H : Hp) (E : XK) (f c' : Addr), Room k (A.deeper (LamX.lamEnv X scope s.heap.objs.size f c')) → Takes (LamX.lamCx X A outer s H E scope f c') (fun cls d _ H => E cls d H) → PE (LamX.lamCx X A outer s H E scope f c') body (tP Γ (fun cls d _ H => E cls d H) p1))
    (L : LamX.LamS X.env.scope scope) (h2 : PE X e2 (tP Γ W p2)) (hg : Gl X x := by rfl) (hdef : defaultsOf params X.env = ([], []) := by rfl)
    (hbind : ∀ (q : Str) (cl : List (Str × Addr)) (pm cv ctv : Value), bindArgs (PySem.W.kla_fn "<lambda>" q params body scope cl pm cv ctv) ⟨[], []⟩ = pure [] := by intros; rfl)
    (hse : starEach [e2] X.env = [(false, eval e2 X.env)] := by rfl)
    (hdb : (x == ("__debug__" : Str)) = false := by decide) (hd : (a == ("__debug__" : Str)) = false := by decide) (hcd : (a == ("__classdict__" : Str)) = false := by decide) :
    PE X (.Call (.Name x p) [.Lambda params body scope lpos, e2] [] pos) (tP Γ W (pRefE p1 p2)) := by
  obtain ⟨g, oc, kV, doc, pm, cdv, ct, od, an, osl, h1, h2', h3, h4, h5⟩ := R.ex
  refine PEi (pe_lamV (t := fun E => tP Γ (fun cls d _ H => E cls d H) p1) h2 hg h1 h2' h3 h4 h5 R.sc R.n0 R.va (fun q => R.gv X g cdv q rfl rfl) TB.tab hcode (by rw [hq]; exact TB.mem) (fun q hq' e => by rw [hq]; exact TB.one q hq' e) hr L hdef hbind (fun A outer s H E f c' hr => hbody A outer s H E f c' hr (takes_of rfl rfl rfl rfl)) hse hdb hd hcd) fun σ H Q h => imp_refE hC h
end DL

namespace DL
open PySem PySem.Spec L2
section
variable {Γ : Gm} {X : Cx} {Fz Bz : AS} {H : Hp}
/-! ### more methods of lists -/
theorem Reps.rev : ∀ {vs : List V} {ds : List D} {L : List Addr}, Reps Γ Fz Bz H vs ds L → ∃ L', Reps Γ Fz Bz H vs.reverse ds.reverse L' ∧ ∀ a, a ∈ L' ↔ a ∈ L
  | _, _, _, .nil => ⟨[], .nil, fun a => Iff.rfl⟩
  | _, _, _, .cons (v := v) (d := d) (L1 := L1) (L2 := L2) r t s e => by
    obtain ⟨L', h1, h2⟩ := t.rev
    refine ⟨L' ++ (L1 ++ []), ?_, fun a => ?_⟩
    · rw [List.reverse_cons, List.reverse_cons]
      exact h1.app (.cons r .nil (fun _ _ z => nomatch z) rfl) fun a ha z => by
        rw [List.append_nil] at z
        exact s a z ((h2 a).mp ha)
    · subst e
      simp only [List.mem_append, List.not_mem_nil, or_false, h2 a]
      exact Or.comm
theorem Reps.erase : ∀ (j : Nat) {vs : List V} {ds : List D} {L : List Addr} {d : D}, Reps Γ Fz Bz H vs ds L → ds[j]? = some d → ∃ v Lj Lr, vs[j]? = some v ∧ Rep Γ Fz Bz H v d Lj ∧ Reps Γ Fz Bz H (vs.eraseIdx j) (ds.eraseIdx j) Lr ∧ (∀ a ∈ Lj, a ∉ Lr) ∧ ∀ a, a ∈ L ↔ a ∈ Lj ∨ a ∈ Lr
  | j, _, _, _, d, .nil, e => by simp at e
  | 0, _, _, _, d, .cons r t s el, e => by
    simp at e
    subst e
    exact ⟨_, _, _, by simp, r, by simpa using t, s, fun a => by rw [el, List.mem_append]⟩
  | j + 1, _, _, _, d, .cons (L1 := L1) (L2 := L2) r t s el, e => by
    obtain ⟨v, Lj, Lr, h1, h2, h3, h4, h5⟩ := t.erase j (by simpa using e)
    refine ⟨v, Lj, L1 ++ Lr, by simpa using h1, h2, ?_, fun a ha z => ?_, fun a => ?_⟩
    · rw [List.eraseIdx_cons_succ, List.eraseIdx_cons_succ]
      exact .cons r h3 (fun a ha z => s a ha ((h5 a).mpr (.inr z))) rfl
    · rcases List.mem_append.mp z with z | z
      · exact s a z ((h5 a).mpr (.inl ha))
      · exact h4 a ha z
    · rw [el, List.mem_append, h5 a, List.mem_append]
      constructor
      · rintro (z | z | z)
        · exact .inr (.inl z)
        · exact .inl z
        · exact .inr (.inr z)
      · rintro (z | z | z)
        · exact .inr (.inl z)
        · exact .inl z
        · exact .inr (.inr z)
def gRev : D → List D → Option (D × D)
  | .lst .own xs, [] => some (.lst .own xs.reverse, .non)
  | _, _ => none
def gClr : D → List D → Option (D × D)
  | .lst .own xs, [] => some (.lst .own [], .non)
  | _, _ => none
def gPop : D → List D → Option (D × D)
  | .lst .own xs, [] => (xs[xs.length - 1]?).map fun y => (.lst .own xs.dropLast, y)
  | _, _ => none
def gPopAt : D → List D → Option (D × D)
  | .lst .own xs, [.int i] => if -9223372036854775808 ≤ i ∧ i < 9223372036854775808 then (ixN xs.length i).bind fun k => (xs[k]?).map fun y => (.lst .own (xs.eraseIdx k), y) else none
  | _, _ => none
def gIns : D → List D → Option (D × D)
  | .lst .own xs, [.int i, d] => if xs.length < 16777216 ∧ 0 ≤ i ∧ i < 9223372036854775808 then some (.lst .own (xs.take i.toNat ++ [d] ++ xs.drop i.toNat), .non) else none
  | _, _ => none
theorem rm_rev : MtR X "list.reverse" (rDMut Γ gRev) := by
  intro pins s σ H x vs v us Q I rx rv q
  obtain ⟨Fz, d0, ds, L0, Ls, r0, rs, dj, q⟩ := q
  match d0, ds, r0, rs, q with
  | .lst .own xs, [], r0, rs, q =>
    obtain ⟨a, ws, La, rfl, h1, h2, h3, rfl⟩ := lst_own r0
    cases rs
    have ha := dj a List.mem_cons_self
    refine mt_reverse pins s σ H _ _ v us Q I rx rv ⟨a, ws, rfl, rfl, h1, ?_⟩
    obtain ⟨L', e2, e3⟩ := (h2.upd_at (o := .lst ws.reverse) h1 True.intro h3 ha.2 id).rev
    refine q a (.lst ws.reverse) .non (a :: L') [] List.mem_cons_self True.intro (fun φ z => by cases z) (.lstO upd_same e2 fun z => h3 ((e3 a).mp z)) .non (fun b hb => ?_) fun b z => nomatch z
    rcases List.mem_cons.mp hb with z | z
    · exact .inl (z ▸ List.mem_cons_self)
    · exact .inl (List.mem_cons_of_mem _ ((e3 b).mp z))
theorem rm_clr : MtR X "list.clear" (rDMut Γ gClr) := by
  intro pins s σ H x vs v us Q I rx rv q
  obtain ⟨Fz, d0, ds, L0, Ls, r0, rs, dj, q⟩ := q
  match d0, ds, r0, rs, q with
  | .lst .own xs, [], r0, rs, q =>
    obtain ⟨a, ws, La, rfl, h1, h2, h3, rfl⟩ := lst_own r0
    cases rs
    refine mt_clear pins s σ H _ _ v us Q I rx rv ⟨a, ws, rfl, rfl, h1, ?_⟩
    refine q a (.lst []) .non [a] [] List.mem_cons_self True.intro (fun φ z => by cases z) (.lstO upd_same .nil fun z => nomatch z) .non (fun b hb => ?_) fun b z => nomatch z
    rcases List.mem_cons.mp hb with z | z
    · exact .inl (z ▸ List.mem_cons_self)
    · cases z
/-- an item taken out -/
theorem pop_fin {a : Addr} {ws : List V} {xs : List D} {La : List Addr} {j : Nat} {y : D} {Q : VK} {d' : D} (h1 : H a = some (.lst ws)) (h2 : Reps Γ Fz none0 H ws xs La) (h3 : a ∉ La) (hF : ¬ Fz a) (ey : xs[j]? = some y)
    (q : ∀ a' o w L' Lr, a' ∈ a :: La → Mut (some o) → (∀ φ, o ≠ .ext φ) → Rep Γ Fz none0 (upd H a' o) (.ref a) (.lst .own (xs.eraseIdx j)) L' → Rep Γ Fz none0 (upd H a' o) w y Lr → (∀ b ∈ L', b ∈ a :: La ∨ b ∈ ([] : List Addr)) → (∀ b ∈ Lr, (b ∈ a :: La ∨ b ∈ ([] : List Addr)) ∧ b ∉ L') → Q w (upd H a' o)) :
    ∃ w, ws[j]? = some w ∧ Q w (upd H a (.lst (ws.eraseIdx j))) := by
  obtain ⟨w, Lj, Lr, e1, e2, e3, e4, e5⟩ := (h2.upd_at (o := .lst (ws.eraseIdx j)) h1 True.intro h3 hF id).erase j ey
  refine ⟨w, e1, q a _ w (a :: Lr) Lj List.mem_cons_self True.intro (fun φ z => by cases z) (.lstO upd_same e3 fun z => h3 ((e5 a).mpr (.inr z))) e2 (fun b hb => ?_) fun b hb => ⟨.inl (List.mem_cons_of_mem _ ((e5 b).mpr (.inl hb))), fun z => ?_⟩⟩
  · rcases List.mem_cons.mp hb with z | z
    · exact .inl (z ▸ List.mem_cons_self)
    · exact .inl (List.mem_cons_of_mem _ ((e5 b).mpr (.inr z)))
  · rcases List.mem_cons.mp z with z | z
    · exact h3 ((e5 a).mpr (.inl (z ▸ hb)))
    · exact e4 b hb z
theorem rm_pop : MtR X "list.pop" (rDMut Γ gPop) := by
  intro pins s σ H x vs v us Q I rx rv q
  obtain ⟨Fz, d0, ds, L0, Ls, r0, rs, dj, q⟩ := q
  match d0, ds, r0, rs, q with
  | .lst .own xs, [], r0, rs, q =>
    obtain ⟨a, ws, La, rfl, h1, h2, h3, rfl⟩ := lst_own r0
    cases rs
    have ha := dj a List.mem_cons_self
    cases ey : xs[xs.length - 1]? with
    | none => simp only [gPop, ey, Option.map_none] at q
    | some y =>
      simp only [gPop, ey, Option.map_some] at q
      have lt := (List.getElem?_eq_some_iff.mp ey).1
      have ed : xs.dropLast = xs.eraseIdx (xs.length - 1) := (List.eraseIdx_eq_dropLast (by omega)).symm
      have ew : ws.dropLast = ws.eraseIdx (xs.length - 1) := (List.eraseIdx_eq_dropLast (by rw [h2.len]; omega)).symm
      rw [ed] at q
      obtain ⟨w, e1, e2⟩ := pop_fin (Q := Q) (d' := y) h1 h2 h3 ha.2 ey q
      rw [← h2.len] at e1
      refine mt_pop pins s σ H _ _ v us Q I rx rv ⟨a, ws, w, rfl, rfl, h1, e1, ?_⟩
      rw [ew]
      exact e2
theorem rm_popAt : MtR X "list.pop" (rDMut Γ gPopAt) := by
  intro pins s σ H x vs v us Q I rx rv q
  obtain ⟨Fz, d0, ds, L0, Ls, r0, rs, dj, q⟩ := q
  match d0, ds, r0, rs, q with
  | .lst .own xs, [.int i], r0, rs, q =>
    obtain ⟨a, ws, La, rfl, h1, h2, h3, rfl⟩ := lst_own r0
    obtain ⟨w0, rfl, rw0⟩ := rs.one
    obtain ⟨rfl, rfl⟩ := rw0.int_v
    have ha := dj a List.mem_cons_self
    by_cases c : -9223372036854775808 ≤ i ∧ i < 9223372036854775808
    case neg => simp only [gPopAt, if_neg c] at q
    simp only [gPopAt, if_pos c] at q
    cases ej : ixN xs.length i with
    | none => simp only [ej, Option.bind_none] at q
    | some j =>
      simp only [ej, Option.bind_some] at q
      cases ey : xs[j]? with
      | none => simp only [ey, Option.map_none] at q
      | some y =>
        simp only [ey, Option.map_some] at q
        obtain ⟨w, e1, e2⟩ := pop_fin (Q := Q) (d' := y) h1 h2 h3 ha.2 ey q
        refine mt_popAt pins s σ H _ _ v us Q I rx rv ⟨a, ws, i, j, w, rfl, rfl, h1, by omega, by omega, by rw [h2.len]; exact (ixN_seq ej).1, e1, e2⟩
theorem rm_ins : MtR X "list.insert" (rDMut Γ gIns) := by
  intro pins s σ H x vs v us Q I rx rv q
  obtain ⟨Fz, d0, ds, L0, Ls, r0, rs, dj, q⟩ := q
  match d0, ds, r0, rs, q with
  | .lst .own xs, [.int i, d], r0, rs, q =>
    obtain ⟨a, ws, La, rfl, h1, h2, h3, rfl⟩ := lst_own r0
    obtain ⟨w0, w, L1, L2, rfl, rw0, rw, rfl, s12⟩ := rs.two
    obtain ⟨rfl, rfl⟩ := rw0.int_v
    have ha := dj a List.mem_cons_self
    by_cases c : xs.length < 16777216 ∧ 0 ≤ i ∧ i < 9223372036854775808
    case neg => simp only [gIns, if_neg c] at q
    simp only [gIns, if_pos c] at q
    refine mt_insert pins s σ H _ _ v us Q I rx rv ⟨a, ws, i, w, rfl, rfl, h1, by rw [h2.len, PySem.sizeLine_eq]; exact c.1, c.2.1, by omega, ?_⟩
    rw [List.nil_append] at dj q
    have hL : ∀ b ∈ La, b ∉ L2 := fun b z => by simpa using (dj b (List.mem_cons_of_mem _ z)).1
    have ha2 : a ∉ L2 := by simpa using ha.1
    have e2 := h2.upd_at (o := .lst (ws.take i.toNat ++ [w] ++ ws.drop i.toNat)) h1 True.intro h3 ha.2 id
    have e3 := (Reps.cons (L1 := L2) (L2 := []) rw .nil (fun _ _ z => nomatch z) rfl).upd_at (o := .lst (ws.take i.toNat ++ [w] ++ ws.drop i.toNat)) h1 True.intro (by simpa using ha2) ha.2 id
    rw [← List.take_append_drop i.toNat ws, ← List.take_append_drop i.toNat xs] at e2
    have cut : ∀ (n : Nat) {vs : List V} {ds : List D} {L : List Addr} {H : Hp}, Reps Γ Fz none0 H vs ds L → ∃ L1 L2, Reps Γ Fz none0 H (vs.take n) (ds.take n) L1 ∧ Reps Γ Fz none0 H (vs.drop n) (ds.drop n) L2 ∧ (∀ a ∈ L1, a ∉ L2) ∧ ∀ a, a ∈ L ↔ a ∈ L1 ∨ a ∈ L2 := by
      intro n
      induction n with
      | zero => intro vs ds L H r; exact ⟨[], L, .nil, r, (fun a z => nomatch z), fun a => by simp⟩
      | succ n ih =>
        intro vs ds L H r
        cases r with
        | nil => exact ⟨[], [], .nil, .nil, (fun a z => nomatch z), fun a => by simp⟩
        | cons r t s e =>
          obtain ⟨A1, A2, k1, k2, k3, k4⟩ := ih t
          refine ⟨_, A2, .cons r k1 (fun a ha z => s a ha ((k4 a).mpr (.inl z))) rfl, k2, fun a ha z => ?_, fun a => ?_⟩
          · rcases List.mem_append.mp ha with u | u
            · exact s a u ((k4 a).mpr (.inr z))
            · exact k3 a u z
          · rw [e, List.mem_append, k4 a, List.mem_append, or_assoc]
    rw [List.take_append_drop, List.take_append_drop] at e2
    obtain ⟨A1, A2, k1, k2, k3, k4⟩ := cut i.toNat e2
    have e4 := (k1.app e3 fun b hb z => hL b ((k4 b).mpr (.inl hb)) (by simpa using z)).app k2 fun b hb z => by
      rcases List.mem_append.mp hb with u | u
      · exact k3 b u z
      · exact hL b ((k4 b).mpr (.inr z)) (by simpa using u)
    refine q a _ .non (a :: (A1 ++ (L2 ++ []) ++ A2)) [] List.mem_cons_self True.intro (fun φ z => by cases z) (.lstO upd_same e4 fun z => ?_) .non (fun b hb => ?_) fun b z => nomatch z
    · rw [List.append_nil] at z
      rcases List.mem_append.mp z with z | z
      · rcases List.mem_append.mp z with z | z
        · exact h3 ((k4 a).mpr (.inl z))
        · exact ha2 z
      · exact h3 ((k4 a).mpr (.inr z))
    · rw [List.append_nil] at hb
      rcases List.mem_cons.mp hb with z | z
      · exact .inl (z ▸ List.mem_cons_self)
      · rcases List.mem_append.mp z with z | z
        · rcases List.mem_append.mp z with z | z
          · exact .inl (List.mem_cons_of_mem _ ((k4 b).mpr (.inl z)))
          · exact .inr z
        · exact .inl (List.mem_cons_of_mem _ ((k4 b).mpr (.inr z)))
end
end DL

namespace DL
open PySem PySem.Spec L2
section
variable {Γ : Gm} {W : WX} {X : Cx} {p1 p2 : Pm} {m : Em} {a b e : Expr} {pos p pr rpos : Pos}
/-! ### list(range(..)) -/
def lrR (i j : Int) : R D := if (-4611686018427387904 ≤ i ∧ i < 4611686018427387904 ∧ -4611686018427387904 ≤ j ∧ j < 4611686018427387904) ∧ (j - i).toNat ≤ 16777216 then .ok (.lst .own (rng i (j - i).toNat)) else .stuck
def pLR1 (p : Pm) : Pm := fun ρ => (p ρ).bind fun d => match d with
  | .int j => lrR 0 j
  | _ => .stuck
def pLR2 (p q : Pm) : Pm := fun ρ => (p ρ).bind fun d => (q ρ).bind fun d2 => match d, d2 with
  | .int i, .int j => lrR i j
  | _, _ => .stuck
theorem rgV_reps {Fz Bz : AS} {H : Hp} (i j : Int) : Reps Γ Fz Bz H (rgV i j) (rng i (j - i).toNat) [] := by
  have := reps_ints (Γ := Γ) (Fz := Fz) (Bz := Bz) (H := H) ((List.range (j - i).toNat).map fun k => i + (k : Nat))
  rw [List.map_map, List.map_map] at this
  exact this
theorem lr_fin {Fz Fz1 : AS} {H H1 : Hp} {σ : L2.St} {ρ : List Sl} {L : List Addr} {i j : Int} {Q : VK} (S : Stt Γ Fz H σ ρ L) (o1 : Out Γ Fz H none0 Fz1 H1)
    (h : match lrR i j with
      | .ok d => ∀ v H' Fz' Ld, Out Γ Fz H none0 Fz' H' → Rep Γ Fz' (Bo L Fz') H' v d Ld → (∀ a ∈ Ld, ¬ Trk H a ∧ ¬ Fz' a) → Q v H'
      | .exn x => ∀ cls dx H' Fz', Out Γ Fz H none0 Fz' H' → XRep Γ H' x cls dx → W cls dx σ H'
      | .stuck => False) : RgOk i j ∧ ∀ q, H1 q = none → Q (.ref q) (upd H1 q (.lst (rgV i j))) := by
  unfold lrR at h
  by_cases c : (-4611686018427387904 ≤ i ∧ i < 4611686018427387904 ∧ -4611686018427387904 ≤ j ∧ j < 4611686018427387904) ∧ (j - i).toNat ≤ 16777216
  case neg => rw [if_neg c] at h; exact h.elim
  rw [if_pos c] at h
  refine ⟨⟨by omega, by omega, by omega, by omega, by omega⟩, fun q hq => ?_⟩
  exact fin_op (L1 := []) S o1 (fun a z => nomatch z) h (same_upd hq) ((rgV_reps i j).newL hq) fun a ha => by
    rcases List.mem_cons.mp ha with z | z
    · exact .inr (by rw [z]; exact hq)
    · cases z
theorem rp_lr1 (hl : X.mg "list" = none) (hm : X.mg "range" = none) (h : PE X a (tP Γ W p1)) (hgl : Gl X "list" := by rfl) (hg : Gl X "range" := by rfl) (na : starEach [a] X.env = (false, eval a X.env) :: starEach [] X.env := by rfl) (hc : X.calm = true := by rfl)
    (ne : starEach [.Call (.Name "range" pr) [a] [] rpos] X.env = (false, eval (.Call (.Name "range" pr) [a] [] rpos) X.env) :: starEach [] X.env := by rfl) : PE X (.Call (.Name "list" p) [.Call (.Name "range" pr) [a] [] rpos] [] pos) (tP Γ W (pLR1 p1)) := by
  refine PEi (pe_listRg hc hgl hl (prg_1 hg hm h na) ne) fun σ H Q h => ?_
  obtain ⟨Fz, ρ, L, S, h⟩ := h
  unfold pLR1 at h
  refine ⟨Fz, ρ, L, S, ?_⟩
  cases e1 : p1 ρ with
  | stuck => rw [e1] at h; exact h
  | exn x => rw [e1] at h; exact h
  | ok d =>
    rw [e1, R.bind] at h
    intro v1 H1 Fz1 L1 o1 r1 n1
    cases d <;> first | exact h.elim | skip
    exact ⟨_, r1.int_v.1, lr_fin S o1 h⟩
theorem rp_lr2 (hl : X.mg "list" = none) (hm : X.mg "range" = none) (h : PE X a (tP Γ W p1)) (h' : PE X b (tP Γ W p2)) (hgl : Gl X "list" := by rfl) (hg : Gl X "range" := by rfl) (na : starEach [a, b] X.env = (false, eval a X.env) :: starEach [b] X.env := by rfl) (nb : starEach [b] X.env = (false, eval b X.env) :: starEach [] X.env := by rfl)
    (hp : (backTo rpos (starEach [b] X.env)).any (·.1) = false := by rfl) (hc : X.calm = true := by rfl)
    (ne : starEach [.Call (.Name "range" pr) [a, b] [] rpos] X.env = (false, eval (.Call (.Name "range" pr) [a, b] [] rpos) X.env) :: starEach [] X.env := by rfl) : PE X (.Call (.Name "list" p) [.Call (.Name "range" pr) [a, b] [] rpos] [] pos) (tP Γ W (pLR2 p1 p2)) := by
  refine PEi (pe_listRg hc hgl hl (prg_2 hg hm h h' na nb hp) ne) fun σ H Q h => ?_
  obtain ⟨Fz, ρ, L, S, h⟩ := h
  unfold pLR2 at h
  refine ⟨Fz, ρ, L, S, ?_⟩
  cases e1 : p1 ρ with
  | stuck => rw [e1] at h; exact h
  | exn x => rw [e1] at h; exact h
  | ok d =>
    rw [e1, R.bind] at h
    intro v1 H1 Fz1 L1 o1 r1 n1
    refine ⟨Fz1, ρ, L, S.grow o1, ?_⟩
    cases e2 : p2 ρ with
    | stuck => rw [e2] at h; exact h
    | exn x => rw [e2] at h; intro cls dx H' Fz' o2 xr; exact h cls dx H' Fz' (o1.trans0 o2) xr
    | ok d2 =>
      rw [e2] at h
      intro v2 H2 Fz2 L2 o2 r2 n2
      cases d <;> first | exact h.elim | skip
      cases d2 <;> first | exact h.elim | skip
      exact ⟨_, _, r1.int_v.1, r2.int_v.1, lr_fin S (o1.trans0 o2) h⟩
/-! ### targets of any form -/
def sAsg (t : Tg) (m : Em) : Sm := fun ρ => (m ρ).bind fun x => (R.of (t x.1 x.2)).bind fun ρ' => .ok (.nx ρ')
theorem rs_asg {tg : Expr} {t : Tg} {ns : List Nat} (he : PE X e (tE Γ W m)) (hg : PGd Γ X tg t ns) (hs : swapsWithSole [tg] e pos.line X.env = pure false := by rfl) (hw : swappedStores [tg] e X.env = pure none := by rfl) (ha : (assignEach [tg] X.env).map (·.2) = [assign tg X.env] := by rfl) : PS X (.Assign [tg] e pos) (tS Γ W (sAsg t m)) := by
  obtain ⟨g, hg, gk⟩ := hg
  refine PSi (ps_asg he hg hs hw ha) fun D σ H h => ?_
  obtain ⟨Fz, ρ, L, S, h⟩ := h
  unfold sAsg at h
  refine ⟨Fz, ρ, L, S, ?_⟩
  cases e1 : m ρ with
  | stuck => rw [e1] at h; exact h
  | exn x => rw [e1] at h; intro cls dx H' Fz' o xr; exact h cls dx σ H' Fz' o xr
  | ok z1 =>
    obtain ⟨d, ρ1⟩ := z1
    rw [e1, R.bind] at h
    dsimp only at h
    intro v1 H1 Fz1 L1 Ld1 o1 S1 r1 n1 k1 q1
    cases e2 : t d ρ1 with
    | none => rw [e2] at h; exact h.elim
    | some ρ2 =>
      rw [e2] at h
      exact gk Fz1 H1 σ ρ1 L1 v1 d Ld1 _ ρ2 S1 r1 n1 e2 fun σ' L' S' m' p' _ _ => h σ' H1 Fz1 L' o1 S' (fun a z => k1 a (m' a z)) ((q1.pins σ).trans p')
theorem gNil_ok : GsOk Γ gNil [] [] := fun Fz H σ ρ L vs ds Ld Q ρ' S r n e h => by
  cases r with
  | nil => cases e; exact ⟨rfl, h σ L S (fun a z => .inl z) (.refl ρ σ) rfl fun _ _ => rfl⟩
  | cons _ _ _ _ => cases e
theorem gCons_ok {g1 : TG} {g2 : TGs} {t : Tg} {ts : List Tg} {n1 n2 : List Nat} (k1 : GOk Γ g1 t n1) (k2 : GsOk Γ g2 ts n2) : GsOk Γ (gCons g1 g2) (t :: ts) (n1 ++ n2) := by
  intro Fz H σ ρ L vs ds Ld Q ρ' S r n e h
  cases r with
  | nil => cases e
  | @cons v d vs ds L1 L2 _ r tt s el =>
    subst el
    unfold tgL at e
    cases e1 : t d ρ with
    | none => rw [e1] at e; cases e
    | some ρ1 =>
      rw [e1] at e
      refine ⟨v, vs, rfl, k1 Fz H σ ρ L v d L1 _ ρ1 S r (fun a ha => n a (List.mem_append_left _ ha)) e1 fun σ1 L' S1 m1 p1 l1 a1 => ?_⟩
      refine k2 Fz H σ1 ρ1 L' vs ds L2 _ ρ' S1 tt (fun a ha => ⟨fun z => ?_, (n a (List.mem_append_right _ ha)).2⟩) e fun σ2 L2' S2 m2 p2 l2 a2 => h σ2 L2' S2 (fun a z => ?_) (p1.trans p2) (l2.trans l1) fun j hj => (a2 j fun z => hj (List.mem_append_right _ z)).trans (a1 j fun z => hj (List.mem_append_left _ z))
      · rcases m1 a z with q | q
        · exact (n a (List.mem_append_right _ ha)).1 q
        · exact s a q ha
      · rcases m2 a z with q | q
        · exact (m1 a q).elim .inl fun q => .inr (List.mem_append_left _ q)
        · exact .inr (List.mem_append_right _ q)
theorem gTup_ok {g : TGs} {ts : List Tg} {ns : List Nat} {K : PySem.W.Frag} (hK : K = Γ.K) (k : GsOk Γ g ts ns) : GOk Γ (gTup K ts.length g) (tgT ts) ns := by
  intro Fz H σ ρ L v d Ld Q ρ' S r n e h
  cases r <;> first | (simp only [tgT] at e; cases e; done) | skip
  case tup a vs ds h1 r1 =>
    have e' : tgL ts ds ρ = some ρ' := e
    exact ⟨a, vs, rfl, by rw [hK]; exact h1, by rw [Reps.len r1, tgL_len e'], k Fz H σ ρ L vs ds Ld Q ρ' S r1 n e' h⟩
end
/-! ### the first place of a number -/
def firstAt (k : Int) : List Int → Nat → Option Nat
  | [], _ => none
  | n :: ns, i => if n = k then some i else firstAt k ns (i + 1)
def mIndex : D → List D → Option D
  | .lst _ xs, [.int k] => (dints xs).bind fun ns => (firstAt k ns 0).map fun j => .int (j : Nat)
  | _, _ => none
theorem firstAt_some {k : Int} : ∀ {ns : List Int} {i j : Nat}, firstAt k ns i = some j → i ≤ j ∧ ns[j - i]? = some k ∧ ∀ m, m < j - i → ns[m]? ≠ some k
  | [], i, j, h => by simp [firstAt] at h
  | n :: ns, i, j, h => by
    unfold firstAt at h
    by_cases c : n = k
    · rw [if_pos c] at h
      cases h
      subst c
      refine ⟨Nat.le_refl _, by simp, fun m hm => by omega⟩
    · rw [if_neg c] at h
      obtain ⟨h1, h2, h3⟩ := firstAt_some h
      refine ⟨by omega, ?_, fun m hm => ?_⟩
      · rw [show j - i = (j - (i + 1)) + 1 by omega]
        simpa using h2
      · cases m with
        | zero => simpa using c
        | succ m => simpa using h3 m (by omega)
section
variable {Γ : Gm} {X : Cx}
theorem rm_index (hK : X.K = Γ.K) : MtR X "list.index" (rDM Γ mIndex) := by
  intro pins s σ H x xs v us Q I rx rxs h
  obtain ⟨Fz, Bz, d0, ds, L0, L1, r0, r1, dj, h⟩ := h
  match d0, ds, r0, r1, h with
  | .lst g ys, [.int k], r0, r1, h =>
    obtain ⟨a, vs, La, rfl, h1, h2, h3⟩ := r0.lst_r
    obtain ⟨w, rfl, rw'⟩ := r1.one
    obtain ⟨rfl, rfl⟩ := rw'.int_v
    cases e : dints ys with
    | none => simp only [mIndex, e, Option.bind_none] at h
    | some ns =>
      simp only [mIndex, e, Option.bind_some] at h
      rw [ints_of e] at h2
      have ev := h2.dints
      subst ev
      cases ef : firstAt k ns 0 with
      | none => rw [ef] at h; exact h.elim
      | some j =>
        rw [ef] at h
        obtain ⟨_, f2, f3⟩ := firstAt_some ef
        rw [Nat.sub_zero] at f2 f3
        refine mt_index pins s σ H _ _ v us Q I rx rxs ⟨a, ns.map V.int, .int k, j, .int k, rfl, rfl, by rw [hK]; exact h1, rfl, by simp [flatV], by simp [f2], by simp [eqV], fun m z' hm ez => ?_, h _ H [] Same.refl' (.int _) fun b z => nomatch z⟩
        rw [List.getElem?_map] at ez
        cases en : ns[m]? with
        | none => rw [en] at ez; cases ez
        | some i =>
          rw [en] at ez
          cases ez
          have : i ≠ k := fun z => f3 m hm (by rw [en, z])
          simp [eqV, this]
end
end DL

namespace DL
open PySem PySem.Spec L2
/-! ### calls that change any of their arguments -/
/-- a slot's data moved out; a hole stays -/
def eTake (i : Nat) : Em := fun ρ => match ρ[i]? with
  | some (.val u d) => .ok (d, ρ.set i (.val u .hole))
  | _ => .stuck
def mix : List Bool → List D → List D
  | true :: mu, d :: ds => d :: mix mu ds
  | false :: mu, d :: ds => d.tag toShr :: mix mu ds
  | _, _ => []
/-- the changed arguments laid back -/
def putB : List (Option Nat) → List D → List Sl → Option (List Sl)
  | [], [], ρ => some ρ
  | none :: bk, _ :: ms, ρ => putB bk ms ρ
  | some i :: bk, m :: ms, ρ => match ρ[i]? with
    | some (.val u .hole) => putB bk ms (ρ.set i (.val u m))
    | _ => none
  | _, _, _ => none
def eCallG (mu : List Bool) (bk : List (Option Nat)) (G : Gf) (q : EA') : Em := fun ρ => (q ρ).bind fun x => if x.1.length = mu.length ∧ bk.length = mu.length then match G (mix mu x.1) with
  | .ok (d, ms) => match putB (pick mu bk) ms x.2 with
    | some ρ' => .ok (d, ρ')
    | none => .stuck
  | .exn x => .exn x
  | .stuck => .stuck else .stuck
def Bk (σ : L2.St) : List (Option Nat) → List V → Prop
  | [], [] => True
  | none :: bk, _ :: vs => Bk σ bk vs
  | some i :: bk, v :: vs => σ[i]? = some (some v) ∧ Bk σ bk vs
  | _, _ => False
def tEB (Γ : Gm) (W : WX) (q : EA') (bk : List (Option Nat)) : TA := fun σ H Q => tEA Γ W q σ H fun vs H1 => Bk σ bk vs → Q vs H1
section
variable {Γ : Gm} {W : WX} {X : Cx} {m m1 : Em} {q eq : EA'} {bk : List (Option Nat)} {es : List Expr} {e : Expr} {pos p py : Pos} {x y : Str} {k n : Nat} {G : Gf} {mu : List Bool}
theorem imp_econs {σ : L2.St} {H : Hp} {Q : List V → Hp → Prop} (h : tEA Γ W (eCons m1 q) σ H Q) : tCons (tE Γ W m1) (tEA Γ W q) σ H Q := by
  obtain ⟨Fz, ρ, L, S, h⟩ := h
  unfold eCons at h
  refine ⟨Fz, ρ, L, S, ?_⟩
  cases e1 : m1 ρ with
  | stuck => rw [e1] at h; exact h
  | exn x => rw [e1] at h; exact h
  | ok z1 =>
    obtain ⟨d1, ρ1⟩ := z1
    rw [e1] at h
    intro v1 H1 Fz1 L1 Ld1 o1 S1 r1 n1 k1 q1
    refine ⟨Fz1, ρ1, L1, S1, ?_⟩
    rw [R.bind] at h
    cases e2 : q ρ1 with
    | stuck => rw [e2] at h; exact h
    | exn x =>
      rw [e2] at h
      intro cls dx H' Fz' o2 xr
      exact h cls dx H' Fz' (o1.transL o2 fun c z => k1 c (.inl z)) xr
    | ok z2 =>
      obtain ⟨d2, ρ2⟩ := z2
      rw [e2, R.bind] at h
      intro v2 H2 Fz2 L2 Ld2 o2 S2 r2 n2 k2 q2
      obtain ⟨r1', n1'⟩ := tmp_keep S1 o2 r1 n1
      have o := o1.transL o2 fun c z => k1 c (.inl z)
      have t1 : ∀ a ∈ Ld1, Trk H1 a := fun a ha => (r1.wr a ha).trk
      have back : ∀ a, a ∈ L1 ∨ ¬ Trk H1 a → a ∈ L ∨ ¬ Trk H a := fun a z => z.elim (fun z => k1 a (.inl z)) fun z => .inr fun t => z (o1.there a t)
      refine h (v1 :: v2) H2 Fz2 L2 (Ld1 ++ Ld2) o S2 (.cons r1' r2 (fun a ha z => ?_) rfl) (fun a ha => ?_) (fun a ha => ?_) (q1.trans q2)
      · rcases k2 a (.inr z) with q | q
        · exact (n1 a ha).1 q
        · exact q (t1 a ha)
      · rcases List.mem_append.mp ha with q | q
        · exact ⟨fun z => by
            rcases k2 a (.inl z) with u | u
            · exact (n1 a q).1 u
            · exact u (t1 a q), n1' a q⟩
        · exact n2 a q
      · rcases ha with q | q
        · exact back a (k2 a (.inl q))
        · rcases List.mem_append.mp q with q | q
          · exact k1 a (.inr q)
          · exact back a (k2 a (.inr q))
theorem rb_nil : PA X [] (tEB Γ W eNil []) := by
  refine PAi pa_nil fun σ H Q h => ?_
  obtain ⟨Fz, ρ, L, S, h⟩ := h
  exact h [] H Fz L [] (.refl S.trk S.tabs) S .nil (fun a z => nomatch z) (fun a z => z.elim .inl fun z => nomatch z) (.refl ρ) True.intro
theorem rb_cons (ha : PE X e (tE Γ W m1)) (hr : PA X es (tEB Γ W q bk)) (hs : starEach (e :: es) X.env = (false, eval e X.env) :: starEach es X.env := by rfl) : PA X (e :: es) (tEB Γ W (eCons m1 q) (none :: bk)) := by
  refine PAi (pa_cons ha hr hs) fun σ H Q h => ?_
  exact tE_mono (imp_econs h) fun v H1 h1 => tEA_mono h1 fun vs H2 h2 b => h2 b
theorem rb_take {i : Nat} (hr : PA X es (tEB Γ W q bk)) (hN : X.N[i]? = some y := by rfl) (hv : Vis X.env.scope y := by first | exact Or.inl rfl | exact Or.inr (Or.inl rfl) | exact Or.inr (Or.inr rfl)) (hd : (y == ("__debug__" : Str)) = false := by decide) (hcd : (y == ("__classdict__" : Str)) = false := by decide)
    (hs : starEach (.Name y py :: es) X.env = (false, eval (.Name y py) X.env) :: starEach es X.env := by rfl) : PA X (.Name y py :: es) (tEB Γ W (eCons (eTake i) q) (some i :: bk)) := by
  refine PAi (pa_cons (pe_var (i := i) hN hv hd hcd) hr hs) fun σ H Q h => ?_
  have h' := imp_econs h
  obtain ⟨Fz, ρ, L, S, h'⟩ := h'
  unfold eTake at h'
  cases e : ρ[i]? with
  | none => rw [e] at h'; exact h'.elim
  | some sl =>
    rw [e] at h'
    cases sl with
    | emp => exact h'.elim
    | val u d =>
      obtain ⟨v, Li, Lr, h1, h2, h3, h4, h5⟩ := S.env.take e
      refine ⟨v, h1, ?_⟩
      have il : i < ρ.length := (List.getElem?_eq_some_iff.mp e).1
      obtain ⟨L2, g1, g2⟩ := h5.put (i := i) (v := v) (d := .hole) u (by simp [il]) h1 (.hole v) fun a z => nomatch z
      rw [List.set_set] at g2
      have hh := h' v H Fz L2 Li (.refl S.trk S.tabs) ⟨g2, fun a ha => ?_, S.trk, S.tabs⟩ h2 (fun a ha => ⟨fun z => ?_, S.dis a ((h3 a).mpr (.inl ha))⟩) (fun a ha => ?_) (fun j d' ej => ?_)
      · exact tEA_mono hh fun vs H1 h2 b => h2 ⟨h1, b⟩
      · exact S.dis a ((h3 a).mpr (.inr (((g1 a).mp ha).elim (fun z => nomatch z) id)))
      · exact h4 a ha (((g1 a).mp z).elim (fun z => nomatch z) id)
      · rcases ha with ha | ha
        · exact .inl ((h3 a).mpr (.inr (((g1 a).mp ha).elim (fun z => nomatch z) id)))
        · exact .inl ((h3 a).mpr (.inl ha))
      · by_cases ij : i = j
        · subst ij
          rw [e] at ej
          cases ej
          exact ⟨.hole, by rw [List.getElem?_set_self il]⟩
        · exact ⟨d', by rw [List.getElem?_set_ne ij]; exact ej⟩
theorem mix_reps {Fz : AS} {H : Hp} : ∀ {mu : List Bool} {vs : List V} {ds : List D} {Ld : List Addr}, mu.length = ds.length → Reps Γ Fz none0 H vs ds Ld →
    ∃ (Lm Lf : List Addr), Reps Γ (fun a => Fz a ∨ a ∈ Lf) none0 H vs (mix mu ds) Lm ∧ (∀ a, a ∈ Ld ↔ a ∈ Lm ∨ a ∈ Lf) ∧ ∀ a ∈ Lm, a ∉ Lf
  | [], _, _, _, hl, .nil => ⟨[], [], .nil, fun a => by simp, fun a z => nomatch z⟩
  | _ :: _, _, _, _, hl, .nil => by simp at hl
  | [], _, _, _, hl, .cons .. => by simp at hl
  | true :: mu, _, _, _, hl, .cons (L1 := L1) (L2 := L2) r t s e => by
    obtain ⟨Lm, Lf, h1, h2, h3⟩ := mix_reps (mu := mu) (by simpa using hl) t
    refine ⟨L1 ++ Lm, Lf, .cons (r.mono (fun a z => .inl z) fun _ z => z) h1 (fun a ha z => s a ha ((h2 a).mpr (.inl z))) rfl, fun a => ?_, fun a ha z => ?_⟩
    · rw [e, List.mem_append, h2 a, List.mem_append, or_assoc]
    · rcases List.mem_append.mp ha with u | u
      · exact s a u ((h2 a).mpr (.inr z))
      · exact h3 a u z
  | false :: mu, _, _, _, hl, .cons (L1 := L1) (L2 := L2) r t s e => by
    obtain ⟨Lm, Lf, h1, h2, h3⟩ := mix_reps (mu := mu) (by simpa using hl) t
    have rep_mono : ∀ {vs : List V} {ds : List D} {L : List Addr} {F F' : AS}, (∀ a, F a → F' a) → Reps Γ F none0 H vs ds L → Reps Γ F' none0 H vs ds L := fun k r => Reps.chg (p := fun _ => true) (fun f _ _ a z => by cases f <;> first | exact k a z | exact z) r (by
      rw [D.allL_all, List.all_eq_true]
      have all : ∀ d : D, d.all (fun _ => true) = true := by
        have both : ∀ n, (∀ d : D, sizeOf d ≤ n → d.all (fun _ => true) = true) ∧ (∀ ds : List D, sizeOf ds ≤ n → D.allL (fun _ => true) ds = true) := by
          intro n
          induction n with
          | zero =>
            constructor
            · intro d hd; cases d <;> simp at hd
            · intro ds hd; cases ds <;> simp at hd ⊢
          | succ n ih =>
            constructor
            · intro d hd
              cases d <;> simp only [D.all, Bool.true_and] <;> first | rfl | (apply ih.2; simp at hd; omega)
            · intro ds hd
              cases ds with
              | nil => simp [D.allL]
              | cons d ds =>
                simp only [D.allL, Bool.and_eq_true]
                simp at hd
                exact ⟨ih.1 d (by omega), ih.2 ds (by omega)⟩
        exact fun d => (both (sizeOf d)).1 d (Nat.le_refl _)
      exact fun d _ => all d)
    have r' := (r.tagA rfl rfl sh_of (fun a ha => .inr ha) : Rep Γ (fun a => Fz a ∨ a ∈ L1) none0 H _ _ [])
    refine ⟨Lm, L1 ++ Lf, .cons (L1 := []) (r'.mono (fun a z => z.imp id fun z => List.mem_append_left _ z) fun _ z => z) (rep_mono (fun a z => z.imp id fun z => List.mem_append_right _ z) h1) (fun a z => nomatch z) rfl, fun a => ?_, fun a ha z => ?_⟩
    · rw [e, List.mem_append, h2 a, List.mem_append]
      constructor
      · rintro (z | z | z)
        · exact .inr (.inl z)
        · exact .inl z
        · exact .inr (.inr z)
      · rintro (z | z | z)
        · exact .inr (.inl z)
        · exact .inl z
        · exact .inr (.inr z)
    · rcases List.mem_append.mp z with u | u
      · exact s a u ((h2 a).mpr (.inl ha))
      · exact h3 a ha u
theorem mix_len : ∀ {mu : List Bool} {ds : List D}, ds.length = mu.length → (mix mu ds).length = ds.length
  | [], [], _ => rfl
  | [], _ :: _, h => by simp at h
  | _ :: _, [], h => by simp at h
  | true :: mu, d :: ds, h => by simpa [mix] using mix_len (by simpa using h)
  | false :: mu, d :: ds, h => by simpa [mix] using mix_len (by simpa using h)
theorem bk_pick {σ : L2.St} : ∀ {mu : List Bool} {bk : List (Option Nat)} {vs : List V}, bk.length = mu.length → Bk σ bk vs → Bk σ (pick mu bk) (pick mu vs)
  | [], [], [], _, _ => True.intro
  | [], [], _ :: _, _, h => h.elim
  | [], _ :: _, _, hl, _ => by simp at hl
  | _ :: _, [], _, hl, _ => by simp at hl
  | m :: mu, none :: bk, [], _, h => h.elim
  | m :: mu, some _ :: bk, [], _, h => h.elim
  | true :: mu, none :: bk, v :: vs, hl, h => bk_pick (mu := mu) (by simpa using hl) h
  | true :: mu, some i :: bk, v :: vs, hl, h => ⟨h.1, bk_pick (mu := mu) (by simpa using hl) h.2⟩
  | false :: mu, none :: bk, v :: vs, hl, h => bk_pick (mu := mu) (by simpa using hl) h
  | false :: mu, some i :: bk, v :: vs, hl, h => bk_pick (mu := mu) (by simpa using hl) h.2
/-- the changed arguments laid back into the frame -/
theorem putB_ok {Fz : AS} {H : Hp} {σ : L2.St} : ∀ {bk : List (Option Nat)} {vs : List V} {ms : List D} {ρ ρ' : List Sl} {L Lm : List Addr}, Stt Γ Fz H σ ρ L → Reps Γ Fz none0 H vs ms Lm → (∀ a ∈ Lm, a ∉ L ∧ ¬ Fz a) → Bk σ bk vs → putB bk ms ρ = some ρ' → ∃ L', Stt Γ Fz H σ ρ' L' ∧ (∀ a ∈ L', a ∈ L ∨ a ∈ Lm) ∧ PinE ρ ρ'
  | [], [], _, ρ, ρ', L, _, S, .nil, n, b, e => by cases e; exact ⟨L, S, fun a z => .inl z, .refl ρ⟩
  | none :: bk, v :: vs, _, ρ, ρ', L, _, S, .cons (L1 := L1) (L2 := L2) r t s el, n, b, e => by
    subst el
    obtain ⟨L', h1, h2, h3⟩ := putB_ok (bk := bk) S t (fun a ha => n a (List.mem_append_right _ ha)) b e
    exact ⟨L', h1, fun a z => (h2 a z).imp id fun z => List.mem_append_right _ z, h3⟩
  | some i :: bk, v :: vs, _, ρ, ρ', L, _, S, .cons (d := d) (L1 := L1) (L2 := L2) r t s el, n, b, e => by
    subst el
    unfold putB at e
    cases e0 : ρ[i]? with
    | none => rw [e0] at e; cases e
    | some sl =>
      rw [e0] at e
      cases sl with
      | emp => cases e
      | val u dd =>
        cases dd <;> first | cases e | skip
        have e : putB bk _ (ρ.set i (.val u d)) = some ρ' := e
        obtain ⟨w, Li, Lr, h1, h2, h3, h4, h5⟩ := S.env.take e0
        have il : i < ρ.length := (List.getElem?_eq_some_iff.mp e0).1
        have nr : ∀ a ∈ Lr, a ∈ L := fun a z => (h3 a).mpr (.inr z)
        obtain ⟨L3, g1, g2⟩ := h5.put (i := i) (v := v) u (by simp [il]) b.1 r fun a ha z => (n a (List.mem_append_left _ ha)).1 (nr a z)
        rw [List.set_set] at g2
        have S3 : Stt Γ Fz H σ (ρ.set i (.val u d)) L3 := ⟨g2, fun a ha => ((g1 a).mp ha).elim (fun z => (n a (List.mem_append_left _ z)).2) fun z => S.dis a (nr a z), S.trk, S.tabs⟩
        obtain ⟨L', k1, k2, k3⟩ := putB_ok (bk := bk) S3 t (fun a ha => ⟨fun z => ((g1 a).mp z).elim (fun z => s a z ha) fun z => (n a (List.mem_append_right _ ha)).1 (nr a z), (n a (List.mem_append_right _ ha)).2⟩) b.2 e
        refine ⟨L', k1, fun a z => (k2 a z).elim (fun z => ((g1 a).mp z).elim (fun z => .inr (List.mem_append_left _ z)) fun z => .inl (nr a z)) fun z => .inr (List.mem_append_right _ z), PinE.trans (fun j d' ej => ?_) k3⟩
        by_cases ij : i = j
        · subst ij
          rw [e0] at ej
          cases ej
          exact ⟨d, by rw [List.getElem?_set_self il]⟩
        · exact ⟨d', by rw [List.getElem?_set_ne ij]; exact ej⟩
  | [], _ :: _, _, ρ, ρ', L, _, S, .cons .., n, b, e => b.elim
  | none :: _, [], _, ρ, ρ', L, _, S, .nil, n, b, e => b.elim
  | some _ :: _, [], _, ρ, ρ', L, _, S, .nil, n, b, e => b.elim
theorem re_callg (F : FnD X.prog X.w X.K X.mg X.base Γ k x mu n G) (hr : Room k X.A) (tk : Takes X W) (hn : n = mu.length) (ha : PA X (e :: es) (tEB Γ W eq bk)) (hg : Gl X x := by rfl) (hdb : (x == ("__debug__" : Str)) = false := by decide) (he : starEach (e :: es) X.env = (false, eval e X.env) :: starEach es X.env := by rfl)
    (hpl : (backTo pos (starEach es X.env)).any (·.1) = false := by rfl) : PE X (.Call (.Name x p) (e :: es) [] pos) (tE Γ W (eCallG mu bk G eq)) := by
  subst hn
  obtain ⟨f, fd, ps, F, hm, hk, hb⟩ := F
  refine PEi (pe_callS F hr hg hm hk hb (fun σ => passAt tk σ) ha hdb he hpl) fun σ H Q h => ?_
  obtain ⟨Fz, ρ, L, S, h⟩ := h
  unfold eCallG at h
  refine ⟨Fz, ρ, L, S, ?_⟩
  cases e1 : eq ρ with
  | stuck => rw [e1] at h; exact h
  | exn x => rw [e1] at h; exact h
  | ok z1 =>
    obtain ⟨ds, ρ1⟩ := z1
    rw [e1, R.bind] at h
    dsimp only at h
    intro vs H1 Fz1 L1 Ld o1 S1 r1 n1 k1 q1 B
    by_cases hln : ds.length = mu.length ∧ bk.length = mu.length
    case neg => rw [if_neg hln] at h; exact h.elim
    rw [if_pos hln] at h
    obtain ⟨Lm, Lf, ra, hd, hdis⟩ := mix_reps (mu := mu) hln.1.symm r1
    refine ⟨by rw [r1.len, hln.1], _, _, Lm, ra, (fun a ha z => ?_), fun a z => ?_, o1.tabs, ?_⟩
    · rcases z with z | z
      · exact (n1 a ((hd a).mpr (.inl ha))).2 z
      · exact hdis a ha z
    · rcases z with z | z
      · exact o1.trk a z
      · exact (r1.wr a ((hd a).mpr (.inr z))).trk
    · have nw : ∀ {Fz' : AS} {H' : Hp}, Out Γ (fun a => Fz1 a ∨ a ∈ Lf) H1 (· ∈ Lm) Fz' H' → ∀ a, Fz' a → Fz1 a ∨ a ∈ Ld ∨ ¬ Trk H1 a := fun {Fz' H'} o2 a z => by
        rcases o2.new a z with u | u | u
        · exact u.elim .inl fun u => .inr (.inl ((hd a).mpr (.inr u)))
        · exact .inr (.inl ((hd a).mpr (.inl u)))
        · exact .inr (.inr u)
      have o3 : ∀ {Fz' : AS} {H' : Hp}, Out Γ (fun a => Fz1 a ∨ a ∈ Lf) H1 (· ∈ Lm) Fz' H' → Out Γ Fz H (· ∈ L) Fz' H' ∧ Stt Γ Fz' H' σ ρ1 L1 := fun {Fz' H'} o2 => by
        refine ⟨⟨fun b ob eb nb tb => o2.keep b ob (o1.keep b ob eb nb tb) (fun z => ?_) tb, fun a z => o2.there a (o1.there a z), fun a z => o2.up a (.inl (o1.up a z)), fun a z => ?_, o2.trk, o2.tabs⟩,
          ⟨S1.env.keep o2.keep (mutS_of fun a ha => r1.wr a ((hd a).mpr (.inl ha))) (fun b z => ⟨fun u => (n1 b ((hd b).mpr (.inl u))).2 z, o2.up b (.inl z)⟩) fun a ha z => (n1 a ((hd a).mpr (.inl z))).1 ha, fun a ha z => ?_, o2.trk, o2.tabs⟩⟩
        · rcases k1 b (.inr ((hd b).mpr (.inl z))) with u | u
          · exact nb u
          · exact u ⟨ob, eb, tb⟩
        · rcases nw o2 a z with u | u | u
          · exact o1.new a u
          · exact .inr (k1 a (.inr u))
          · exact .inr (.inr fun t => u (o1.there a t))
        · rcases nw o2 a z with u | u | u
          · exact S1.dis a ha u
          · exact (n1 a u).1 ha
          · exact u (S1.env.wr a ha).trk
      cases e2 : G (mix mu ds) with
      | stuck => rw [e2] at h; exact h
      | exn x =>
        rw [e2] at h
        intro cls dx H' Fz' o2 xr
        exact h cls dx H' _ (o3 o2).1 xr
      | ok rr =>
        obtain ⟨d, ms⟩ := rr
        rw [e2] at h
        dsimp only at h
        intro v H' Fz' Ld' Lm' o2 r2 rm n2 nm k2
        obtain ⟨o4, S4⟩ := o3 o2
        cases e3 : putB (pick mu bk) ms ρ1 with
        | none => rw [e3] at h; exact h.elim
        | some ρ2 =>
          rw [e3] at h
          have fresh : ∀ a, a ∈ Lm' ∨ a ∈ Ld' → a ∉ L1 := fun a z u => by
            rcases k2 a z with w | w
            · exact (n1 a ((hd a).mpr (.inl w))).1 u
            · exact w (S1.env.wr a u).trk
          obtain ⟨L2, S5, g2, g3⟩ := putB_ok S4 rm (fun a ha => ⟨fresh a (.inl ha), nm a ha⟩) (bk_pick hln.2 B) e3
          have back : ∀ a, a ∈ Lm ∨ ¬ Trk H1 a → a ∈ L ∨ ¬ Trk H a := fun a z => z.elim (fun z => k1 a (.inr ((hd a).mpr (.inl z)))) fun z => .inr fun t => z (o1.there a t)
          refine h v H' Fz' L2 Ld' o4 S5 r2 (fun a ha => ⟨fun z => ?_, (n2 a ha).2⟩) (fun a ha => ?_) (q1.trans g3)
          · rcases g2 a z with u | u
            · exact fresh a (.inr ha) u
            · exact (n2 a ha).1 u
          · rcases ha with ha | ha
            · rcases g2 a ha with u | u
              · exact k1 a (.inl u)
              · exact back a (k2 a (.inl u))
            · exact back a (k2 a (.inr ha))
end
end DL

namespace DL
open PySem PySem.Spec L2
/-! ### a part of a tuple moved out -/
def atP : D → List Nat → Option D
  | d, [] => some d
  | .tup ds, k :: ks => (ds[k]?).bind fun y => atP y ks
  | _, _ :: _ => none
/-- the part alone -/
def onP : D → List Nat → D
  | d, [] => d
  | .tup ds, k :: ks => .tup ((ds.map fun _ => D.hole).set k (onP (ds.getD k .hole) ks))
  | _, _ :: _ => .hole
/-- what is left -/
def hoP : D → List Nat → D
  | _, [] => .hole
  | .tup ds, k :: ks => .tup (ds.set k (hoP (ds.getD k .hole) ks))
  | _, _ :: _ => .hole
section
variable {Γ : Gm} {W : WX} {X : Cx} {pos py : Pos} {Fz : AS} {H : Hp}
theorem Reps.holes {Bz : AS} : ∀ {vs : List V} {ds : List D}, vs.length = ds.length → Reps Γ Fz Bz H vs (ds.map fun _ => D.hole) []
  | [], [], _ => .nil
  | v :: vs, d :: ds, h => .cons (.hole v) (Reps.holes (by simpa using h)) (fun a z => (nomatch z)) rfl
theorem Reps.focus {Bz : AS} : ∀ {vs : List V} {ds : List D} {L : List Addr} {k : Nat} {y : D}, Reps Γ Fz Bz H vs ds L → ds[k]? = some y →
    ∃ (w : V) (Ly Lr : List Addr), vs[k]? = some w ∧ Rep Γ Fz Bz H w y Ly ∧ (∀ a ∈ Ly, a ∉ Lr) ∧ (∀ a, a ∈ L ↔ a ∈ Ly ∨ a ∈ Lr) ∧ ∀ (y' : D) (L' : List Addr), Rep Γ Fz Bz H w y' L' → (∀ a ∈ L', a ∉ Lr) → ∃ L2 : List Addr, Reps Γ Fz Bz H vs (ds.set k y') L2 ∧ ∀ a, a ∈ L2 ↔ a ∈ L' ∨ a ∈ Lr
  | _, _, _, k, y, .nil, h => by simp at h
  | _, _, _, 0, y, .cons (v := v) (d := d) (vs := vs) (ds := ds) (L1 := L1) (L2 := L2) r t s e, h => by
    cases h
    subst e
    refine ⟨v, L1, L2, rfl, r, s, fun a => List.mem_append, fun y' L' r' n => ⟨L' ++ L2, .cons r' t n rfl, fun a => List.mem_append⟩⟩
  | _, _, _, k + 1, y, .cons (v := v) (d := d) (vs := vs) (ds := ds) (L1 := L1) (L2 := L2) r t s e, h => by
    subst e
    obtain ⟨w, Ly, Lr, h1, h2, h3, h4, h5⟩ := Reps.focus t h
    refine ⟨w, Ly, L1 ++ Lr, h1, h2, fun a ha z => ?_, fun a => ?_, fun y' L' r' n => ?_⟩
    · rcases List.mem_append.mp z with z | z
      · exact s a z ((h4 a).mpr (.inl ha))
      · exact h3 a ha z
    · rw [List.mem_append, List.mem_append, h4 a]
      exact ⟨fun z => z.elim (fun z => .inr (.inl z)) fun z => z.elim .inl fun z => .inr (.inr z), fun z => z.elim (fun z => .inr (.inl z)) fun z => z.elim .inl fun z => .inr (.inr z)⟩
    · obtain ⟨L3, g1, g2⟩ := h5 y' L' r' fun a ha z => n a ha (List.mem_append.mpr (.inr z))
      refine ⟨L1 ++ L3, .cons r g1 (fun a ha z => ?_) rfl, fun a => ?_⟩
      · rcases (g2 a).mp z with z | z
        · exact n a z (List.mem_append.mpr (.inl ha))
        · exact s a ha ((h4 a).mpr (.inr z))
      · rw [List.mem_append, List.mem_append, g2 a]
        exact ⟨fun z => z.elim (fun z => .inr (.inl z)) fun z => z.elim .inl fun z => .inr (.inr z), fun z => z.elim (fun z => .inr (.inl z)) fun z => z.elim .inl fun z => .inr (.inr z)⟩
theorem rep_split {Bz : AS} : ∀ {ks : List Nat} {v : V} {d x : D} {L : List Addr}, Rep Γ Fz Bz H v d L → atP d ks = some x →
    ∃ Lx Lr, Rep Γ Fz Bz H v (onP d ks) Lx ∧ Rep Γ Fz Bz H v (hoP d ks) Lr ∧ (∀ a ∈ Lx, a ∈ L) ∧ (∀ a ∈ Lr, a ∈ L) ∧ (∀ a ∈ Lx, a ∉ Lr) ∧ atP (onP d ks) ks = some x
  | [], v, d, x, L, r, h => ⟨L, [], r, .hole v, fun a z => z, fun a z => (nomatch z), fun a _ z => (nomatch z), h⟩
  | k :: ks, v, d, x, L, r, h => by
    cases r with
    | tup hs r =>
      rename_i a vs ds
      rw [atP] at h
      cases e : ds[k]? with
      | none => rw [e] at h; cases h
      | some y =>
        rw [e] at h
        obtain ⟨w, Ly, Lr, h1, h2, h3, h4, h5⟩ := Reps.focus r e
        obtain ⟨Lx, L2, g1, g2, g3, g4, g5, g6⟩ := rep_split h2 h
        have ey : ds.getD k .hole = y := by simp [List.getD, e]
        have kl : k < ds.length := (List.getElem?_eq_some_iff.mp e).1
        obtain ⟨L3, j1, j2⟩ := h5 _ _ g2 fun a ha z => h3 a (g4 a ha) z
        obtain ⟨w', Ly', Lr', i1, i2, i3, i4, i5⟩ := Reps.focus (k := k) (y := .hole) (Reps.holes (Γ := Γ) (Fz := Fz) (Bz := Bz) (H := H) (ds := ds) r.len) (by simp [kl])
        rw [h1] at i1
        cases i1
        have n0 : ∀ a, a ∉ Lr' := fun a z => by have := (i4 a).mpr (.inr z); cases this
        obtain ⟨L4, l1, l2⟩ := i5 _ _ g1 fun a _ z => n0 a z
        refine ⟨L4, L3, ?_, ?_, fun a ha => ?_, fun a ha => ?_, fun a ha z => ?_, ?_⟩
        · rw [onP, ey]; exact .tup hs l1
        · rw [hoP, ey]; exact .tup hs j1
        · exact (h4 a).mpr (.inl (g3 a (((l2 a).mp ha).elim id fun z => (n0 a z).elim)))
        · exact (h4 a).mpr (((j2 a).mp ha).imp (g4 a) id)
        · have ax := ((l2 a).mp ha).elim id fun z => (n0 a z).elim
          rcases (j2 a).mp z with z | z
          · exact g5 a ax z
          · exact h3 a (g3 a ax) z
        · rw [onP, atP, ey, List.getElem?_set_self (by simpa using kl)]
          exact g6
    | _ => simp [atP] at h
/-- the chain of items, in the heap -/
def chR (Γ : Gm) : List Nat → V → Hp → VK → Prop
  | [], v, H, Q => Q v H
  | k :: ks, v, H, Q => rD2 Γ dIx v (.int (k : Nat)) H fun z H1 => chR Γ ks z H1 Q
theorem chR_ok : ∀ {ks : List Nat} {v : V} {d x : D} {L : List Addr} {H : Hp} {Q : VK}, Rep Γ Fz none0 H v d L → atP d ks = some x → (∀ z H' Ld, Same H H' → Rep Γ Fz none0 H' z x Ld → (∀ a ∈ Ld, a ∈ L ∨ H a = none) → Q z H') → chR Γ ks v H Q
  | [], v, d, x, L, H, Q, r, h, q => by
    cases h
    exact q v H L (.refl H) r fun a z => .inl z
  | k :: ks, v, d, x, L, H, Q, r, h, q => by
    cases d with
    | tup ds =>
      rw [atP] at h
      cases e : ds[k]? with
      | none => rw [e] at h; cases h
      | some y =>
        rw [e] at h
        refine ⟨Fz, none0, .tup ds, .int (k : Nat), L, [], r, .int _, fun a _ z => (nomatch z), ?_⟩
        have kl : k < ds.length := (List.getElem?_eq_some_iff.mp e).1
        have : dIx (.tup ds) (.int (k : Nat)) = some y := by
          show atI ds (k : Nat) = some y
          unfold atI ixN
          rw [if_pos (by omega), if_pos (by omega), Int.toNat_natCast]
          exact e
        rw [this]
        intro z H1 Ld s rz n
        refine chR_ok rz h fun z2 H2 Ld2 s2 rz2 n2 => q z2 H2 Ld2 (s.trans s2) rz2 fun a ha => ?_
        rcases n2 a ha with t | t
        · exact (n a t).elim .inl fun t => t.elim (fun t => (nomatch t)) .inr
        · exact .inr (s.free t)
    | _ => simp [atP] at h
def eTakeP (i : Nat) (ks : List Nat) : Em := fun ρ => match ρ[i]? with
  | some (.val u d) => (match atP d ks with
    | some x => .ok (x, ρ.set i (.val u (hoP d ks)))
    | none => .stuck)
  | _ => .stuck
theorem imp_takeP {i : Nat} {ks : List Nat} {σ : L2.St} {Q : VK} (h : tE Γ W (eTakeP i ks) σ H Q) : ∃ v, σ[i]? = some (some v) ∧ chR Γ ks v H Q := by
  obtain ⟨Fz, ρ, L, S, h⟩ := h
  unfold eTakeP at h
  cases e : ρ[i]? with
  | none => rw [e] at h; exact h.elim
  | some sl =>
    rw [e] at h
    cases sl with
    | emp => exact h.elim
    | val u d =>
      dsimp only at h
      cases ex : atP d ks with
      | none => rw [ex] at h; exact h.elim
      | some x =>
        rw [ex] at h
        obtain ⟨v, Li, Lr, h1, h2, h3, h4, h5⟩ := S.env.take e
        have il : i < ρ.length := (List.getElem?_eq_some_iff.mp e).1
        obtain ⟨Lx, Ls, g1, g2, g3, g4, g5, g6⟩ := rep_split h2 ex
        refine ⟨v, h1, chR_ok g1 g6 fun z H' Ld s rz n => ?_⟩
        obtain ⟨L2, p1, p2⟩ := h5.put (i := i) (v := v) u (by simp [il]) h1 g2 fun a ha => h4 a (g4 a ha)
        rw [List.set_set] at p2
        have S2 : Stt Γ Fz H σ (ρ.set i (.val u (hoP d ks))) L2 := ⟨p2, fun a ha => S.dis a ((h3 a).mpr (((p1 a).mp ha).imp (g4 a) id)), S.trk, S.tabs⟩
        have tr : ∀ a, H a = none → ¬ Trk H a := fun a z => not_trk z
        have in2 : ∀ a ∈ L2, a ∈ L := fun a ha => (h3 a).mpr (((p1 a).mp ha).imp (g4 a) id)
        refine h z H' Fz L2 Ld (Out.same S.trk S.tabs s) (S2.grow (Out.same S.trk S.tabs s)) rz (fun a ha => ?_) (fun a ha => ?_) (fun j d' ej => ?_)
        · rcases n a ha with t | t
          · refine ⟨fun q => ?_, S.dis a ((h3 a).mpr (.inl (g3 a t)))⟩
            rcases (p1 a).mp q with q | q
            · exact g5 a t q
            · exact h4 a (g3 a t) q
          · refine ⟨fun q => ?_, fun q => not_trk t (S.trk a q)⟩
            rcases (p1 a).mp q with q | q
            · exact not_trk t (g2.wr a q).trk
            · exact not_trk t (S.env.wr a ((h3 a).mpr (.inr q))).trk
        · rcases ha with ha | ha
          · exact .inl (in2 a ha)
          · rcases n a ha with t | t
            · exact .inl ((h3 a).mpr (.inl (g3 a t)))
            · exact .inr (tr a t)
        · by_cases ij : i = j
          · subst ij
            rw [e] at ej
            cases ej
            exact ⟨_, by rw [List.getElem?_set_self il]⟩
          · exact ⟨d', by rw [List.getElem?_set_ne ij]; exact ej⟩
theorem re_takeP1 {i k : Nat} {y : Str} {p2 : Pos} {jj} (hK : X.K = Γ.K) (hN : X.N[i]? = some y := by rfl) (hv : Vis X.env.scope y := by first | exact Or.inl rfl | exact Or.inr (Or.inl rfl) | exact Or.inr (Or.inr rfl)) (hd : (y == ("__debug__" : Str)) = false := by decide) (hcd : (y == ("__classdict__" : Str)) = false := by decide) :
    PE X (.Subscript (.Name y py) (.Constant (.int (k : Nat)) jj p2) pos) (tE Γ W (eTakeP i [k])) := by
  refine PEi (pe_ix (ro_ix hK) (pe_var (i := i) hN hv hd hcd) pe_int fun _ _ => rfl) fun σ H Q h => ?_
  obtain ⟨v, h1, h2⟩ := imp_takeP h
  exact ⟨v, h1, h2⟩
theorem re_takeP2 {i k k2 : Nat} {y : Str} {p2 p3 p4 : Pos} {jj j2} (hK : X.K = Γ.K) (hN : X.N[i]? = some y := by rfl) (hv : Vis X.env.scope y := by first | exact Or.inl rfl | exact Or.inr (Or.inl rfl) | exact Or.inr (Or.inr rfl)) (hd : (y == ("__debug__" : Str)) = false := by decide) (hcd : (y == ("__classdict__" : Str)) = false := by decide) :
    PE X (.Subscript (.Subscript (.Name y py) (.Constant (.int (k : Nat)) jj p2) p3) (.Constant (.int (k2 : Nat)) j2 p4) pos) (tE Γ W (eTakeP i [k, k2])) := by
  refine PEi (pe_ix (ro_ix hK) (pe_ix (ro_ix hK) (pe_var (i := i) hN hv hd hcd) pe_int fun _ _ => rfl) pe_int fun _ _ => rfl) fun σ H Q h => ?_
  obtain ⟨v, h1, h2⟩ := imp_takeP h
  exact ⟨v, h1, h2⟩
end
end DL

namespace DL
open PySem PySem.Spec

/-! ### the plain layer: what a program on data is worth -/
/-- it ends well, with a result that has P -/
def Wp {α : Type} (r : R α) (P : α → Prop) : Prop := ∃ a, r = .ok a ∧ P a
theorem Wp.mono {α : Type} {r : R α} {P Q : α → Prop} (h : Wp r P) (i : ∀ a, P a → Q a) : Wp r Q := let ⟨a, e, p⟩ := h; ⟨a, e, i a p⟩
theorem Wp.eq {α : Type} {r : R α} {a : α} (h : Wp r (· = a)) : r = .ok a := by obtain ⟨b, e, rfl⟩ := h; exact e
theorem wp_of_eq {α : Type} {r : R α} {a : α} {P : α → Prop} (h : r = .ok a) (p : P a) : Wp r P := ⟨a, h, p⟩
/-- a result there is -/
def Op {α : Type} (o : Option α) (P : α → Prop) : Prop := match o with
  | some a => P a
  | none => False
@[simp] theorem op_some {α : Type} {a : α} {P : α → Prop} : Op (some a) P ↔ P a := Iff.rfl
@[simp] theorem op_none {α : Type} {P : α → Prop} : Op none P ↔ False := Iff.rfl
theorem Op.ex {α : Type} {o : Option α} {P : α → Prop} (h : Op o P) : ∃ a, o = some a ∧ P a := by cases o with
  | none => exact h.elim
  | some a => exact ⟨a, rfl, h⟩
def One (l : List D) (P : D → Prop) : Prop := match l with
  | [x] => P x
  | _ => False
@[simp] theorem one_one {x : D} {P : D → Prop} : One [x] P ↔ P x := Iff.rfl
def OwnL (o : Option Sl) : Prop := match o with
  | some (.val _ (.lst .own _)) => True
  | _ => False
@[simp] theorem ownL_lst {k : Bool} {xs : List D} : OwnL (some (.val k (.lst .own xs))) := True.intro
/-- a slot's data -/
def At (o : Option Sl) (P : Bool → D → Prop) : Prop := match o with
  | some (.val k d) => P k d
  | _ => False
@[simp] theorem at_val {k : Bool} {d : D} {P : Bool → D → Prop} : At (some (.val k d)) P ↔ P k d := Iff.rfl
@[simp] theorem at_emp {P : Bool → D → Prop} : At (some .emp) P ↔ False := Iff.rfl
/-- a slot's data that may be moved -/
def AtF (o : Option Sl) (P : D → Prop) : Prop := match o with
  | some (.val false d) => P d
  | _ => False
@[simp] theorem atF_val {d : D} {P : D → Prop} : AtF (some (.val false d)) P ↔ P d := Iff.rfl
/-- a slot that may be stored -/
def Free : Sl → Prop
  | .val true _ => False
  | _ => True
@[simp] theorem free_emp : Free .emp := True.intro
@[simp] theorem free_val {d : D} : Free (.val false d) := True.intro
def Sto (o : Option Sl) (P : Prop) : Prop := match o with
  | some s => Free s ∧ P
  | none => False
@[simp] theorem sto_some {s : Sl} {P : Prop} : Sto (some s) P ↔ Free s ∧ P := Iff.rfl
def Bl (d : D) (P : Bool → Prop) : Prop := match d with
  | .bl k => P k
  | _ => False
@[simp] theorem bl_bl {k : Bool} {P : Bool → Prop} : Bl (.bl k) P ↔ P k := Iff.rfl
def In (d : D) (P : Int → Prop) : Prop := match d with
  | .int k => P k
  | _ => False
@[simp] theorem in_int {k : Int} {P : Int → Prop} : In (.int k) P ↔ P k := Iff.rfl
def Seq (d : D) (P : List D → Prop) : Prop := match d with
  | .lst _ xs => P xs
  | .tup xs => P xs
  | _ => False
@[simp] theorem seq_lst {f : Fl} {xs : List D} {P : List D → Prop} : Seq (.lst f xs) P ↔ P xs := Iff.rfl
@[simp] theorem seq_tup {xs : List D} {P : List D → Prop} : Seq (.tup xs) P ↔ P xs := Iff.rfl
section
variable {α β : Type} {P : α → Prop}
@[simp] theorem wp_ok {a : α} : Wp (.ok a) P ↔ P a := ⟨fun ⟨b, e, p⟩ => by cases e; exact p, fun p => ⟨a, rfl, p⟩⟩
@[simp] theorem wp_stuck : Wp (.stuck : R α) P ↔ False := ⟨(fun ⟨b, e, p⟩ => nomatch e), False.elim⟩
@[simp] theorem wp_exn {x : Xn} : Wp (.exn x : R α) P ↔ False := ⟨(fun ⟨b, e, p⟩ => nomatch e), False.elim⟩
@[simp] theorem wp_bind {r : R β} {f : β → R α} : Wp (r.bind f) P ↔ Wp r fun b => Wp (f b) P := by
  cases r with
  | ok b => simp [R.bind]
  | exn x => simp [R.bind]
  | stuck => simp [R.bind]
@[simp] theorem wp_of {o : Option α} : Wp (R.of o) P ↔ Op o P := by
  cases o with
  | none => simp [R.of]
  | some a => simp [R.of]
@[simp] theorem wp_noX {r : R α} : Wp (noX r) P ↔ Wp r P := by cases r <;> simp [noX]
theorem wp_ite {c : Prop} [Decidable c] {a b : R α} : Wp (if c then a else b) P ↔ if c then Wp a P else Wp b P := by split <;> rfl
end
section
variable {ρ : List Sl} {p q p1 p2 p3 : Pm} {f g : D → D → Option D} {m n : Em} {s t : Sm} {i j : Nat} {pa : PA'} {ea : EA'} {c c1 c2 : Pb} {b b1 b2 : Eb}
section
variable {P : D → Prop}
@[simp] theorem w_pVar : Wp (pVar i ρ) P ↔ At ρ[i]? fun _ d => P (d.tag toBor) := by
  unfold pVar
  cases h : ρ[i]? with
  | none => simp [At]
  | some s => cases s <;> simp
@[simp] theorem w_pC {d : D} : Wp (pC d ρ) P ↔ P d := by simp [pC]
@[simp] theorem w_pOp2 : Wp (pOp2 f p q ρ) P ↔ Wp (p ρ) fun a => Wp (q ρ) fun b => Op (f a b) P := by simp [pOp2]
@[simp] theorem w_pOp1 {f : D → Option D} : Wp (pOp1 f p ρ) P ↔ Wp (p ρ) fun a => Op (f a) P := by simp [pOp1]
@[simp] theorem w_pOpN {f : List D → Option D} : Wp (pOpN f pa ρ) P ↔ Wp (pa ρ) fun a => Op (f a) P := by simp [pOpN]
@[simp] theorem w_dB {d : D} {Q : Bool → Prop} : Wp (dB d) Q ↔ Bl d Q := by cases d <;> simp [dB, Bl]
@[simp] theorem w_pAndV : Wp (pAndV p q ρ) P ↔ Wp (p ρ) fun d => Bl d fun k => if k = true then Wp (q ρ) P else P (.bl false) := by simp [pAndV, wp_ite]
@[simp] theorem w_pOrV : Wp (pOrV p q ρ) P ↔ Wp (p ρ) fun d => Bl d fun k => if k = true then P (.bl true) else Wp (q ρ) P := by simp [pOrV, wp_ite]
@[simp] theorem w_pIf : Wp (pIf c p q ρ) P ↔ Wp (c ρ) fun k => if k = true then Wp (p ρ) P else Wp (q ρ) P := by simp [pIf, wp_ite]
@[simp] theorem w_pChain : Wp (pChain f g p1 p2 p3 ρ) P ↔ Wp (p1 ρ) fun a => Wp (p2 ρ) fun b => Op (f a b) fun z => Bl z fun k => if k = true then Wp (p3 ρ) fun c => Op (g b c) P else P (.bl false) := by simp [pChain, wp_ite]
theorem w_pCall {k : Nat} {G : Gf} : Wp (pCall k G pa ρ) P ↔ Wp (pa ρ) fun ds => ds.length = k ∧ Wp (G (D.tagL toShr ds)) fun r => r.2 = [] ∧ P (if anyBor ds then r.1.tag toBorR else r.1) := by
  unfold pCall
  rw [wp_bind]
  apply iff_of_eq
  congr 1
  funext ds
  by_cases h : ds.length = k
  · rw [if_pos h]
    cases e : G (D.tagL toShr ds) with
    | stuck => simp
    | exn x => simp
    | ok r =>
      obtain ⟨d, ms⟩ := r
      cases ms with
      | nil => simp [h]
      | cons _ _ => simp
  · rw [if_neg h]; simp [h]
@[simp] theorem w_pSlice {lo hi : Option Pm} : Wp (pSlice p lo hi ρ) P ↔ Wp (p ρ) fun d => Wp (pI lo ρ) fun l => Wp (pI hi ρ) fun h => Op (dSlice d l h) P := by simp [pSlice]
@[simp] theorem w_pI_none {Q : Option Int → Prop} : Wp (pI none ρ) Q ↔ Q none := by simp [pI]
@[simp] theorem w_pI_some {Q : Option Int → Prop} : Wp (pI (some p) ρ) Q ↔ Wp (p ρ) fun d => In d fun i => Q (some i) := by
  unfold pI
  rw [wp_bind]
  apply iff_of_eq
  congr 1
  funext d
  cases d <;> simp [In]
end
section
variable {P : List D → Prop}
@[simp] theorem w_pNil : Wp (pNil ρ) P ↔ P [] := by simp [pNil]
@[simp] theorem w_pCons : Wp (pCons p pa ρ) P ↔ Wp (p ρ) fun d => Wp (pa ρ) fun ds => P (d :: ds) := by simp [pCons]
end
section
variable {P : Bool → Prop}
@[simp] theorem w_pTst : Wp (pTst p ρ) P ↔ Wp (p ρ) fun d => Bl d P := by simp [pTst]
@[simp] theorem w_pAnd : Wp (pAnd c1 c2 ρ) P ↔ Wp (c1 ρ) fun k => if k = true then Wp (c2 ρ) P else P false := by simp [pAnd, wp_ite]
@[simp] theorem w_pOr : Wp (pOr c1 c2 ρ) P ↔ Wp (c1 ρ) fun k => if k = true then P true else Wp (c2 ρ) P := by simp [pOr, wp_ite]
@[simp] theorem w_pNot : Wp (pNot c ρ) P ↔ Wp (c ρ) fun k => P (!k) := by simp [pNot]
end
section
variable {P : D × List Sl → Prop}
@[simp] theorem w_eP : Wp (eP p ρ) P ↔ Wp (p ρ) fun d => noBor d = true ∧ P (d, ρ) := by
  unfold eP
  rw [wp_bind]
  apply iff_of_eq
  congr 1
  funext d
  by_cases h : noBor d = true
  · simp [h]
  · simp [h]
@[simp] theorem w_eShr : Wp (eShr m ρ) P ↔ Wp (m ρ) fun x => P (x.1.tag toShr, x.2) := by simp [eShr]
@[simp] theorem w_eMove : Wp (eMove i ρ) P ↔ AtF ρ[i]? fun d => P (d, ρ.set i .emp) := by
  unfold eMove
  cases h : ρ[i]? with
  | none => simp [AtF]
  | some s => cases s with
    | emp => simp [AtF]
    | val k d => cases k <;> simp [AtF]
@[simp] theorem w_eOp2 : Wp (eOp2 f m n ρ) P ↔ Wp (m ρ) fun x => Wp (n x.2) fun y => Op (f x.1 y.1) fun d => P (d, y.2) := by simp [eOp2]
@[simp] theorem w_eOp1 {f : D → Option D} : Wp (eOp1 f m ρ) P ↔ Wp (m ρ) fun x => Op (f x.1) fun d => P (d, x.2) := by simp [eOp1]
@[simp] theorem w_eOpN {f : List D → Option D} : Wp (eOpN f ea ρ) P ↔ Wp (ea ρ) fun x => Op (f x.1) fun d => P (d, x.2) := by simp [eOpN]
@[simp] theorem w_eAndV : Wp (eAndV m n ρ) P ↔ Wp (m ρ) fun x => Bl x.1 fun k => if k = true then Wp (n x.2) P else P (.bl false, x.2) := by simp [eAndV, wp_ite]
@[simp] theorem w_eOrV : Wp (eOrV m n ρ) P ↔ Wp (m ρ) fun x => Bl x.1 fun k => if k = true then P (.bl true, x.2) else Wp (n x.2) P := by simp [eOrV, wp_ite]
@[simp] theorem w_eIf : Wp (eIf b m n ρ) P ↔ Wp (b ρ) fun x => if x.1 = true then Wp (m x.2) P else Wp (n x.2) P := by simp [eIf, wp_ite]
theorem w_eCallN {k : Nat} {G : Gf} : Wp (eCallN k G ea ρ) P ↔ Wp (ea ρ) fun x => x.1.length = k ∧ Wp (G (D.tagL toShr x.1)) fun r => r.2 = [] ∧ P (r.1, x.2) := by
  unfold eCallN
  rw [wp_bind]
  apply iff_of_eq
  congr 1
  funext x
  by_cases h : x.1.length = k
  · rw [if_pos h]
    cases e : G (D.tagL toShr x.1) with
    | stuck => simp
    | exn x => simp
    | ok r =>
      obtain ⟨d, ms⟩ := r
      cases ms with
      | nil => simp [h]
      | cons _ _ => simp
  · rw [if_neg h]; simp [h]
theorem w_eCallM {k : Nat} {G : Gf} : Wp (eCallM k G i ea ρ) P ↔ At ρ[i]? fun _ _ => Wp (ea ρ) fun x => At x.2[i]? fun u d0 => x.1.length + 1 = k ∧ Wp (G (d0 :: D.tagL toShr x.1)) fun r => One r.2 fun mm => P (r.1, x.2.set i (.val u mm)) := by
  unfold eCallM
  cases h0 : ρ[i]? with
  | none => simp [At]
  | some s =>
    cases s with
    | emp => simp
    | val u d =>
      simp only [wp_bind, at_val]
      apply iff_of_eq
      congr 1
      funext x
      cases h1 : x.2[i]? with
      | none => simp [At]
      | some s1 =>
        cases s1 with
        | emp => simp
        | val u1 d1 =>
          by_cases h : x.1.length + 1 = k
          · simp only [if_pos h, at_val, h, true_and]
            cases e : G (d1 :: D.tagL toShr x.1) with
            | stuck => simp
            | exn x => simp
            | ok r =>
              obtain ⟨d, ms⟩ := r
              cases ms with
              | nil => simp [One]
              | cons m0 ms => cases ms with
                | nil => simp [One]
                | cons _ _ => simp [One]
          · simp [h]
theorem w_eMut {f : D → List D → Option (D × D)} : Wp (eMut i f ea ρ) P ↔ OwnL ρ[i]? ∧ Wp (ea ρ) fun x => At x.2[i]? fun u d0 => Op (f d0 x.1) fun r => P (r.2, x.2.set i (.val u r.1)) := by
  unfold eMut
  cases h0 : ρ[i]? with
  | none => simp [OwnL]
  | some s =>
    cases s with
    | emp => simp [OwnL]
    | val u d =>
      cases d <;> try (simp [OwnL]; done)
      rename_i ff xs
      cases ff <;> try (simp [OwnL]; done)
      simp only [wp_bind, ownL_lst, true_and]
      apply iff_of_eq
      congr 1
      funext x
      cases h1 : x.2[i]? with
      | none => simp [At]
      | some s1 =>
        cases s1 with
        | emp => simp
        | val u1 d1 =>
          cases e : f d1 x.1 with
          | none => simp [e]
          | some r => simp [e]
end
section
variable {P : List D × List Sl → Prop}
@[simp] theorem w_eNil : Wp (eNil ρ) P ↔ P ([], ρ) := by simp [eNil]
@[simp] theorem w_eCons : Wp (eCons m ea ρ) P ↔ Wp (m ρ) fun x => Wp (ea x.2) fun y => P (x.1 :: y.1, y.2) := by simp [eCons]
@[simp] theorem w_iLst : Wp (iLst m ρ) P ↔ Wp (m ρ) fun x => Seq x.1 fun xs => P (D.tagL toShr xs, x.2) := by
  unfold iLst
  rw [wp_bind]
  apply iff_of_eq
  congr 1
  funext x
  obtain ⟨d, r⟩ := x
  cases d <;> simp [Seq]
@[simp] theorem w_iRng1 : Wp (iRng1 m ρ) P ↔ Wp (m ρ) fun x => In x.1 fun j => (-4611686018427387904 ≤ j ∧ j < 4611686018427387904) ∧ P (rng 0 j.toNat, x.2) := by
  unfold iRng1
  rw [wp_bind]
  apply iff_of_eq
  congr 1
  funext x
  obtain ⟨d, r⟩ := x
  cases d <;> simp [wp_ite, In]
@[simp] theorem w_iRng2 : Wp (iRng2 m n ρ) P ↔ Wp (m ρ) fun x => Wp (n x.2) fun y => In x.1 fun i => In y.1 fun j => (-4611686018427387904 ≤ i ∧ i < 4611686018427387904 ∧ -4611686018427387904 ≤ j ∧ j < 4611686018427387904) ∧ P (rng i (j - i).toNat, y.2) := by
  unfold iRng2
  rw [wp_bind]
  apply iff_of_eq
  congr 1
  funext x
  obtain ⟨d, r⟩ := x
  rw [wp_bind]
  congr 1
  funext y
  obtain ⟨d2, r2⟩ := y
  cases d <;> cases d2 <;> simp [wp_ite, In]
@[simp] theorem w_iRevR : Wp (iRevR m ρ) P ↔ Wp (m ρ) fun x => In x.1 fun j => (-4611686018427387904 ≤ j ∧ j < 4611686018427387904) ∧ P (rngC (j.toNat - 1) (-1) j.toNat, x.2) := by
  unfold iRevR
  rw [wp_bind]
  apply iff_of_eq
  congr 1
  funext x
  obtain ⟨d, r⟩ := x
  cases d <;> simp [wp_ite, In]
end
section
variable {P : Bool × List Sl → Prop}
@[simp] theorem w_eT : Wp (eT ρ) P ↔ P (true, ρ) := by simp [eT]
@[simp] theorem w_eB : Wp (eB c ρ) P ↔ Wp (c ρ) fun k => P (k, ρ) := by simp [eB]
@[simp] theorem w_eTst : Wp (eTst m ρ) P ↔ Wp (m ρ) fun x => Bl x.1 fun k => P (k, x.2) := by simp [eTst]
@[simp] theorem w_eAnd : Wp (eAnd b1 b2 ρ) P ↔ Wp (b1 ρ) fun x => if x.1 = true then Wp (b2 x.2) P else P (false, x.2) := by simp [eAnd, wp_ite]
@[simp] theorem w_eOr : Wp (eOr b1 b2 ρ) P ↔ Wp (b1 ρ) fun x => if x.1 = true then P (true, x.2) else Wp (b2 x.2) P := by simp [eOr, wp_ite]
@[simp] theorem w_eNot : Wp (eNot b ρ) P ↔ Wp (b ρ) fun x => P (!x.1, x.2) := by simp [eNot]
end
section
variable {P : Fw → Prop}
/-- what follows a statement -/
def Nx (K : List Sl → Prop) (P : Fw → Prop) : Fw → Prop
  | .nx ρ => K ρ
  | f => P f
@[simp] theorem nx_nx {K : List Sl → Prop} : Nx K P (.nx ρ) ↔ K ρ := Iff.rfl
@[simp] theorem nx_rt {K : List Sl → Prop} {d : D} : Nx K P (.rt d ρ) ↔ P (.rt d ρ) := Iff.rfl
@[simp] theorem nx_bk {K : List Sl → Prop} : Nx K P (.bk ρ) ↔ P (.bk ρ) := Iff.rfl
@[simp] theorem nx_ct {K : List Sl → Prop} : Nx K P (.ct ρ) ↔ P (.ct ρ) := Iff.rfl
@[simp] theorem w_sSeq : Wp (sSeq s t ρ) P ↔ Wp (s ρ) (Nx (fun ρ' => Wp (t ρ') P) P) := by
  unfold sSeq
  rw [wp_bind]
  apply iff_of_eq
  congr 1
  funext f
  cases f <;> simp
@[simp] theorem w_sNil : Wp (sNil ρ) P ↔ P (.nx ρ) := by simp [sNil]
@[simp] theorem w_sNever : Wp (sNever ρ) P ↔ False := by simp [sNever]
@[simp] theorem w_sSet : Wp (sSet i m ρ) P ↔ Wp (m ρ) fun x => Sto x.2[i]? (P (.nx (x.2.set i (.val false x.1)))) := by
  unfold sSet
  rw [wp_bind]
  apply iff_of_eq
  congr 1
  funext x
  cases h : x.2[i]? with
  | none => simp [Sto]
  | some s => cases s with
    | emp => simp
    | val k d => cases k <;> simp [Free]
@[simp] theorem w_sRet : Wp (sRet m ρ) P ↔ Wp (m ρ) fun x => P (.rt x.1 x.2) := by simp [sRet]
@[simp] theorem w_sRetN : Wp (sRetN ρ) P ↔ P (.rt .non ρ) := by simp [sRetN]
@[simp] theorem w_sIf : Wp (sIf b s t ρ) P ↔ Wp (b ρ) fun x => if x.1 = true then Wp (s x.2) P else Wp (t x.2) P := by simp [sIf, wp_ite]
@[simp] theorem w_sExpr : Wp (sExpr m ρ) P ↔ Wp (m ρ) fun x => P (.nx x.2) := by simp [sExpr]
@[simp] theorem w_sBrk : Wp (sBrk ρ) P ↔ P (.bk ρ) := by simp [sBrk]
@[simp] theorem w_sCnt : Wp (sCnt ρ) P ↔ P (.ct ρ) := by simp [sCnt]
@[simp] theorem w_sShrAt : Wp (sShrAt i s ρ) P ↔ Wp (s ρ) (Nx (fun ρ' => P (.nx (frz i ρ'))) P) := by
  unfold sShrAt
  rw [wp_bind]
  apply iff_of_eq
  congr 1
  funext f
  cases f <;> simp
@[simp] theorem w_sWipe {is : List Nat} : Wp (sWipe is s ρ) P ↔ freeAt ρ is = true ∧ Wp (s (wipeD ρ is)) P := by
  unfold sWipe
  by_cases h : freeAt ρ is = true <;> simp [h]
@[simp] theorem w_sFrz {is : List Nat} : Wp (sFrz is s ρ) P ↔ Wp (s (frzs is ρ)) P := by simp [sFrz]
@[simp] theorem w_sSub {f : D → D → D → Option D} : Wp (sSub i f m n ρ) P ↔ Wp (n ρ) fun x => At x.2[i]? fun _ _ => Wp (m x.2) fun y => At y.2[i]? fun u d0 => Op (f d0 y.1 x.1) fun d' => P (.nx (y.2.set i (.val u d'))) := by
  unfold sSub
  rw [wp_bind]
  apply iff_of_eq
  congr 1
  funext x
  cases h : x.2[i]? with
  | none => simp [At]
  | some s => cases s with
    | emp => simp
    | val k d =>
      simp only [wp_bind, at_val]
      congr 1
      funext y
      cases h1 : y.2[i]? with
      | none => simp [At]
      | some s1 =>
        cases s1 with
        | emp => simp
        | val u1 d1 => cases e : f d1 y.1 x.1 <;> simp [e]
@[simp] theorem w_sAug : Wp (sAug i f m ρ) P ↔ At ρ[i]? fun _ d0 => closed d0 = true ∧ Wp (m ρ) fun x => Op (f d0 x.1) fun d => Sto x.2[i]? (P (.nx (x.2.set i (.val false d)))) := by
  unfold sAug
  cases h : ρ[i]? with
  | none => simp [At]
  | some s => cases s with
    | emp => simp
    | val k d0 =>
      by_cases c : closed d0 = true
      · simp only [at_val, c, true_and, ↓reduceIte, wp_bind]
        apply iff_of_eq
        congr 1
        funext x
        cases e : f d0 x.1 with
        | none => simp
        | some d => simp
      · simp [if_neg c, c]
@[simp] theorem w_sAugSub {g f : D → D → Option D} {h : D → D → D → Option D} : Wp (sAugSub i g f h m n ρ) P ↔ At ρ[i]? fun _ _ => Wp (m ρ) fun k => At k.2[i]? fun _ d0 => closed k.1 = true ∧ Op (g d0 k.1) fun d1 => closed d1 = true ∧ Wp (n k.2) fun x => Op (f d1 x.1) fun d2 => At x.2[i]? fun u d00 => Op (h d00 k.1 d2) fun d' => P (.nx (x.2.set i (.val u d'))) := by
  unfold sAugSub
  cases h0 : ρ[i]? with
  | none => simp [At]
  | some s => cases s with
    | emp => simp
    | val k d =>
      simp only [wp_bind, at_val]
      apply iff_of_eq
      congr 1
      funext y
      cases h1 : y.2[i]? with
      | none => simp [At]
      | some s1 =>
        cases s1 with
        | emp => simp
        | val u1 d1 =>
          by_cases c : closed y.1 = true
          · simp only [if_pos c, at_val, c, true_and]
            cases e2 : g d1 y.1 with
            | none => simp [e2]
            | some dd =>
              by_cases c1 : closed dd = true
              · simp only [op_some, c1, true_and, ↓reduceIte, wp_bind]
                congr 1
                funext x
                cases e3 : f dd x.1 with
                | none => simp [e3]
                | some d2 =>
                  simp only [op_some]
                  cases e4 : x.2[i]? with
                  | none => simp [e4, At]
                  | some s4 =>
                    cases s4 with
                    | emp => simp [e4]
                    | val u4 d4 =>
                      simp only [at_val]
                      cases e5 : h d4 y.1 d2 with
                      | none => simp [e5]
                      | some d5 => simp
              · simp [e2, c1]
          · simp [c]
end
/-- a name that is stored -/
@[simp] theorem w_tgN {d : D} {Q : List Sl → Prop} : Op (tgN i d ρ) Q ↔ Sto ρ[i]? (Q (ρ.set i (.val false d))) := by
  unfold tgN
  cases h : ρ[i]? with
  | none => simp [Sto]
  | some s => cases s with
    | emp => simp
    | val k d => cases k <;> simp [Free]
/-! ### for -/
/-- the end of a turn -/
def Turn (K : List Sl → Prop) (P : Fw → Prop) : Fw → Prop
  | .nx ρ => K ρ
  | .ct ρ => K ρ
  | .bk ρ => P (.nx ρ)
  | .rt d ρ => P (.rt d ρ)
@[simp] theorem turn_nx {K : List Sl → Prop} {P : Fw → Prop} : Turn K P (.nx ρ) ↔ K ρ := Iff.rfl
@[simp] theorem turn_ct {K : List Sl → Prop} {P : Fw → Prop} : Turn K P (.ct ρ) ↔ K ρ := Iff.rfl
@[simp] theorem turn_bk {K : List Sl → Prop} {P : Fw → Prop} : Turn K P (.bk ρ) ↔ P (.nx ρ) := Iff.rfl
@[simp] theorem turn_rt {K : List Sl → Prop} {P : Fw → Prop} {d : D} : Turn K P (.rt d ρ) ↔ P (.rt d ρ) := Iff.rfl
theorem wp_forL {t : Tg} {P : Fw → Prop} (Inv : Nat → List Sl → Prop) : ∀ (ds : List D) (k : Nat) (ρ : List Sl), Inv k ρ → (∀ j d ρ, ds[j]? = some d → Inv (k + j) ρ → Op (t d ρ) fun ρ1 => Wp (s ρ1) (Turn (Inv (k + j + 1)) P)) → (∀ ρ, Inv (k + ds.length) ρ → P (.nx ρ)) → Wp (forL t s ds ρ) P
  | [], k, ρ, h0, _, he => by simpa [forL] using he ρ h0
  | d :: ds, k, ρ, h0, hs, he => by
    obtain ⟨ρ1, e1, h1⟩ := (hs 0 d ρ rfl h0).ex
    unfold forL
    rw [wp_bind, wp_of, e1, op_some, wp_bind]
    refine h1.mono fun f hf => ?_
    have next : ∀ ρ2, Inv (k + 1) ρ2 → Wp (forL t s ds ρ2) P := fun ρ2 h2 => wp_forL Inv ds (k + 1) ρ2 h2 (fun j d ρ e h => by
      have := hs (j + 1) d ρ (by simpa using e) (by rw [show k + (j + 1) = k + 1 + j by omega]; exact h)
      rw [show k + (j + 1) + 1 = k + 1 + j + 1 by omega] at this
      exact this) fun ρ h => he ρ (by rw [List.length_cons, show k + (ds.length + 1) = k + 1 + ds.length by omega]; exact h)
    cases f with
    | nx ρ2 => exact next ρ2 hf
    | ct ρ2 => exact next ρ2 hf
    | bk ρ2 => exact wp_ok.mpr hf
    | rt d ρ2 => exact wp_ok.mpr hf
theorem wp_for {im : Im} {t : Tg} {P : Fw → Prop} (Inv : Nat → List Sl → Prop) (h : Wp (im ρ) fun x => Inv 0 x.2 ∧ (∀ j d ρ, x.1[j]? = some d → Inv j ρ → Op (t d ρ) fun ρ1 => Wp (s ρ1) (Turn (Inv (j + 1)) P)) ∧ ∀ ρ, Inv x.1.length ρ → P (.nx ρ)) : Wp (sFor im t s ρ) P := by
  unfold sFor
  rw [wp_bind]
  refine h.mono fun x ⟨h0, hs, he⟩ => ?_
  exact wp_forL Inv x.1 0 x.2 h0 (fun j d ρ e h => by rw [Nat.zero_add] at h ⊢; exact hs j d ρ e h) fun ρ h => he ρ (by rw [Nat.zero_add] at h; exact h)
/-! ### comprehensions -/
theorem wp_lcL {t : Tg} {c : Eb} {e : Em} {vs : List Nat} {P : List D × List Sl → Prop} (Inv : Nat → List D → List Sl → Prop) : ∀ (ds : List D) (k : Nat) (acc : List D) (ρ : List Sl), Inv k acc ρ → acc.length + ds.length ≤ 16777216 →
    (∀ j d acc ρ, ds[j]? = some d → Inv (k + j) acc ρ → Op (t d ρ) fun ρ1 => Wp (c ρ1) fun b => if b.1 = true then Wp (e b.2) fun y => Inv (k + j + 1) (acc ++ [y.1]) (wipeD y.2 vs) else Inv (k + j + 1) acc (wipeD b.2 vs)) → (∀ acc ρ, Inv (k + ds.length) acc ρ → P (acc, ρ)) → Wp (lcL t c e vs ds acc ρ) P
  | [], k, acc, ρ, h0, _, _, he => by simpa [lcL] using he acc ρ h0
  | d :: ds, k, acc, ρ, h0, hl, hs, he => by
    obtain ⟨ρ1, e1, h1⟩ := (hs 0 d acc ρ rfl h0).ex
    unfold lcL
    rw [wp_bind, wp_of, e1, op_some, wp_bind, wp_noX]
    rw [List.length_cons] at hl
    have next : ∀ acc ρ2, acc.length + ds.length ≤ 16777216 → Inv (k + 1) acc ρ2 → Wp (lcL t c e vs ds acc ρ2) P := fun acc ρ2 hl h2 => wp_lcL Inv ds (k + 1) acc ρ2 h2 hl (fun j d acc ρ e h => by
      have := hs (j + 1) d acc ρ (by simpa using e) (by rw [show k + (j + 1) = k + 1 + j by omega]; exact h)
      rw [show k + (j + 1) + 1 = k + 1 + j + 1 by omega] at this
      exact this) fun acc ρ h => he acc ρ (by rw [List.length_cons, show k + (ds.length + 1) = k + 1 + ds.length by omega]; exact h)
    refine h1.mono fun b hb => ?_
    by_cases c : b.1 = true
    · rw [if_pos c] at hb ⊢
      rw [wp_bind, wp_noX]
      refine hb.mono fun y hy => ?_
      rw [if_pos (by omega)]
      exact next _ _ (by rw [List.length_append, List.length_singleton]; omega) hy
    · rw [if_neg c] at hb ⊢
      exact next _ _ (by omega) hb
theorem wp_lc {im : Im} {t : Tg} {c : Eb} {e : Em} {vs : List Nat} {P : D × List Sl → Prop} (Inv : Nat → List D → List Sl → Prop) (h : Wp (im ρ) fun x => empAt x.2 vs = true ∧ x.1.length ≤ 16777216 ∧ Inv 0 [] x.2 ∧
    (∀ j d acc ρ, x.1[j]? = some d → Inv j acc ρ → Op (t d ρ) fun ρ1 => Wp (c ρ1) fun b => if b.1 = true then Wp (e b.2) fun y => Inv (j + 1) (acc ++ [y.1]) (wipeD y.2 vs) else Inv (j + 1) acc (wipeD b.2 vs)) ∧ (∀ acc ρ, Inv x.1.length acc ρ → P (.lst .own acc, ρ))) : Wp (eLc im vs t c e ρ) P := by
  unfold eLc
  rw [wp_bind]
  refine h.mono fun x ⟨h1, h2, h3, h4, h5⟩ => ?_
  rw [if_pos h1, wp_bind]
  refine wp_lcL (P := fun y => Wp (.ok (.lst .own y.1, y.2)) P) Inv x.1 0 [] x.2 h3 (by simpa using h2) (fun j d acc ρ e h => by rw [Nat.zero_add] at h ⊢; exact h4 j d acc ρ e h) fun acc ρ h => wp_ok.mpr (h5 acc ρ (by rw [Nat.zero_add] at h; exact h))
/-- the plain kind: every element by itself, the frame as it was -/
theorem wp_lcF {im : Im} {e : Em} {P : D × List Sl → Prop} (g : Nat → D) (h : Wp (im ρ) fun x => x.2[i]? = some .emp ∧ x.1.length ≤ 16777216 ∧ (∀ k d, x.1[k]? = some d → Wp (e (x.2.set i (.val false d))) fun y => y = (g k, x.2.set i (.val false d))) ∧ P (.lst .own ((List.range x.1.length).map g), x.2)) : Wp (eLc im [i] (tgN i) eT e ρ) P := by
  obtain ⟨x, e0, h1, h2, h3, h4⟩ := h
  have ew : ∀ d, wipeD (x.2.set i (.val false d)) [i] = x.2 := fun d => by
    simp only [wipeD, List.set_set]
    apply List.ext_getElem?
    intro j
    by_cases z : i = j
    · subst z; rw [List.getElem?_set_self (List.getElem?_eq_some_iff.mp h1).1, h1]
    · rw [List.getElem?_set_ne z]
  refine wp_lc (fun k acc ρ' => ρ' = x.2 ∧ acc = (List.range k).map g) ⟨x, e0, ?_, h2, ⟨rfl, rfl⟩, ?_, ?_⟩
  · simp [empAt, h1]
  · rintro k d acc ρ' ek ⟨rfl, rfl⟩
    rw [w_tgN, h1, sto_some]
    refine ⟨True.intro, ?_⟩
    rw [w_eT]
    dsimp only
    rw [if_pos rfl]
    refine (h3 k d ek).mono fun y hy => ?_
    subst hy
    exact ⟨ew d, by rw [List.range_succ, List.map_append]; rfl⟩
  · rintro acc ρ' ⟨rfl, rfl⟩
    exact h4
end
/-! ### a def -/
theorem wp_body {mu : List Bool} {N : Nat} {b : Sm} {ds : List D} {P : D × List D → Prop} (hl : ds.length = mu.length) (h : Wp (b (sl0 mu ds ++ List.replicate N .emp)) fun f => match f with
  | .rt d ρ' => P (d, picks mu ρ')
  | .nx ρ' => P (.non, picks mu ρ')
  | _ => False) : Wp (bodyG mu N b ds) P := by
  unfold bodyG
  rw [if_pos hl]
  obtain ⟨f, e, h⟩ := h
  rw [e]
  cases f with
  | rt d ρ' => exact wp_ok.mpr h
  | nx ρ' => exact wp_ok.mpr h
  | bk ρ' => exact h.elim
  | ct ρ' => exact h.elim
/-- what a body's end says of the def -/
def Bd (mu : List Bool) (P : D × List D → Prop) : Fw → Prop
  | .rt d ρ' => P (d, picks mu ρ')
  | .nx ρ' => P (.non, picks mu ρ')
  | _ => False
@[simp] theorem bd_rt {mu : List Bool} {P : D × List D → Prop} {d : D} {ρ : List Sl} : Bd mu P (.rt d ρ) ↔ P (d, picks mu ρ) := Iff.rfl
@[simp] theorem bd_nx {mu : List Bool} {P : D × List D → Prop} {ρ : List Sl} : Bd mu P (.nx ρ) ↔ P (.non, picks mu ρ) := Iff.rfl
theorem wp_body' {mu : List Bool} {N : Nat} {b : Sm} {ds : List D} {P : D × List D → Prop} (hl : ds.length = mu.length) (h : Wp (b (sl0 mu ds ++ List.replicate N .emp)) (Bd mu P)) : Wp (bodyG mu N b ds) P :=
  wp_body hl (h.mono fun f hf => by cases f <;> exact hf)
end DL

namespace DL
open PySem PySem.Spec L2

/-! ### data, plainly -/
/-- a list by its places -/
def vec (n : Nat) (g : Nat → D) : List D := (List.range n).map g
@[simp] theorem vec_len {n : Nat} {g : Nat → D} : (vec n g).length = n := by simp [vec]
@[simp] theorem vec_zero {g : Nat → D} : vec 0 g = [] := rfl
theorem vec_get {n : Nat} {g : Nat → D} {k : Nat} (h : k < n) : (vec n g)[k]? = some (g k) := by simp [vec, h]
theorem vec_some {n : Nat} {g : Nat → D} {k : Nat} {d : D} : (vec n g)[k]? = some d ↔ k < n ∧ d = g k := by
  by_cases h : k < n
  · rw [vec_get h]; simp [h, eq_comm]
  · rw [List.getElem?_eq_none (by simpa using h)]; simp [h]
theorem vec_congr {n : Nat} {g h : Nat → D} (e : ∀ k, k < n → g k = h k) : vec n g = vec n h := by
  unfold vec
  exact List.map_congr_left fun k hk => e k (List.mem_range.mp hk)
theorem vec_of (xs : List D) : xs = vec xs.length fun k => xs.getD k .non := by
  apply List.ext_getElem?
  intro k
  by_cases h : k < xs.length
  · rw [vec_get h, List.getElem?_eq_getElem h]; simp [h]
  · rw [List.getElem?_eq_none (by omega), List.getElem?_eq_none (by simp; omega)]
theorem vec_map {n : Nat} {α : Type} (f : α → D) (g : Nat → α) : vec n (fun k => f (g k)) = ((List.range n).map g).map f := by simp [vec]
@[simp] theorem vec_set {n : Nat} {g : Nat → D} {i : Nat} {d : D} : (vec n g).set i d = vec n fun k => if k = i then d else g k := by
  apply List.ext_getElem?
  intro k
  by_cases h : k < n
  · rw [vec_get h]
    by_cases e : i = k
    · subst e; rw [List.getElem?_set_self (by simpa using h)]; simp
    · rw [List.getElem?_set_ne e, vec_get h, if_neg (Ne.symm e)]
  · rw [List.getElem?_eq_none (by simpa using h), List.getElem?_eq_none (by simpa using h)]
theorem vec_succ {n : Nat} {g : Nat → D} : vec (n + 1) g = vec n g ++ [g n] := by simp [vec, List.range_succ]
@[simp] theorem tag_non {g : Fl → Fl} : D.tag g .non = .non := by simp [D.tag]
@[simp] theorem tag_bl {g : Fl → Fl} {b : Bool} : D.tag g (.bl b) = .bl b := by simp [D.tag]
@[simp] theorem tag_int {g : Fl → Fl} {i : Int} : D.tag g (.int i) = .int i := by simp [D.tag]
@[simp] theorem tag_hole {g : Fl → Fl} : D.tag g .hole = .hole := by simp [D.tag]
@[simp] theorem tag_str {g : Fl → Fl} {x : Str} : D.tag g (.str x) = .str x := by simp [D.tag]
@[simp] theorem tag_tup {g : Fl → Fl} {xs : List D} : D.tag g (.tup xs) = .tup (D.tagL g xs) := by simp [D.tag]
@[simp] theorem tag_lst {g : Fl → Fl} {f : Fl} {xs : List D} : D.tag g (.lst f xs) = .lst (g f) (D.tagL g xs) := by simp [D.tag]
@[simp] theorem tag_dik {g : Fl → Fl} {f : Fl} {ks : List Key} {xs : List D} : D.tag g (.dik f ks xs) = .dik (g f) ks (D.tagL g xs) := by simp [D.tag]
@[simp] theorem tag_dit {g : Fl → Fl} {f : Fl} {ks : List (List Key)} {xs : List D} : D.tag g (.dit f ks xs) = .dit (g f) ks (D.tagL g xs) := by simp [D.tag]
@[simp] theorem tag_obj {g : Fl → Fl} {f : Fl} {c : Str} {ns : List Str} {xs : List D} : D.tag g (.obj f c ns xs) = .obj (g f) c ns (D.tagL g xs) := by simp [D.tag]
@[simp] theorem tagL_nil {g : Fl → Fl} : D.tagL g [] = [] := by simp [D.tagL]
@[simp] theorem tagL_cons {g : Fl → Fl} {x : D} {xs : List D} : D.tagL g (x :: xs) = D.tag g x :: D.tagL g xs := by simp [D.tagL]
@[simp] theorem tagL_vec {g : Fl → Fl} {n : Nat} {h : Nat → D} : D.tagL g (vec n h) = vec n fun k => (h k).tag g := by simp [D.tagL_map, vec, Function.comp_def]
@[simp] theorem tagL_app {g : Fl → Fl} {xs ys : List D} : D.tagL g (xs ++ ys) = D.tagL g xs ++ D.tagL g ys := by simp [D.tagL_map]
@[simp] theorem tagL_ints {g : Fl → Fl} {ns : List Int} : D.tagL g (ns.map .int) = ns.map .int := by simp [D.tagL_map, Function.comp_def]
@[simp] theorem tagL_len {g : Fl → Fl} {xs : List D} : (D.tagL g xs).length = xs.length := by simp [D.tagL_map]
theorem tagL_get {g : Fl → Fl} {xs : List D} {k : Nat} : (D.tagL g xs)[k]? = (xs[k]?).map (D.tag g) := by simp [D.tagL_map]
mutual
theorem tag_tag {f g : Fl → Fl} : ∀ d : D, (d.tag f).tag g = d.tag fun x => g (f x)
  | .non => by simp
  | .bl b => by simp
  | .int i => by simp
  | .str x => by simp
  | .hole => by simp [D.tag]
  | .tup xs => by simp [tagL_tagL xs]
  | .lst _ xs => by simp [tagL_tagL xs]
  | .dik _ _ xs => by simp [tagL_tagL xs]
  | .dit _ _ xs => by simp [tagL_tagL xs]
  | .obj _ _ _ xs => by simp [tagL_tagL xs]
theorem tagL_tagL {f g : Fl → Fl} : ∀ ds : List D, D.tagL g (D.tagL f ds) = D.tagL (fun x => g (f x)) ds
  | [] => by simp
  | d :: ds => by simp [tag_tag d, tagL_tagL ds]
end
@[simp] theorem toBor_own : toBor .own = .bor := rfl
@[simp] theorem toBor_shr : toBor .shr = .shr := rfl
@[simp] theorem toBor_bor : toBor .bor = .bor := rfl
@[simp] theorem toBor_kon : toBor .kon = .kon := rfl
@[simp] theorem toShr_own : toShr .own = .shr := rfl
@[simp] theorem toShr_shr : toShr .shr = .shr := rfl
@[simp] theorem toShr_bor : toShr .bor = .shr := rfl
@[simp] theorem toShr_kon : toShr .kon = .kon := rfl
@[simp] theorem toBorR_own : toBorR .own = .own := rfl
@[simp] theorem toBorR_kon : toBorR .kon = .kon := rfl
@[simp] theorem toBorR_shr : toBorR .shr = .bor := rfl
@[simp] theorem toBorR_bor : toBorR .bor = .bor := rfl
@[simp] theorem noBor_non : noBor .non = true := by simp [noBor, D.all]
@[simp] theorem noBor_bl {b : Bool} : noBor (.bl b) = true := by simp [noBor, D.all]
@[simp] theorem noBor_int {b : Int} : noBor (.int b) = true := by simp [noBor, D.all]
@[simp] theorem noBor_str {b : Str} : noBor (.str b) = true := by simp [noBor, D.all]
@[simp] theorem noBor_tup {xs : List D} : noBor (.tup xs) = xs.all noBor := by simp [noBor, D.all, D.allL_all]; rfl
@[simp] theorem noBor_lst {f : Fl} {xs : List D} : noBor (.lst f xs) = (f != .bor && xs.all noBor) := by simp [noBor, D.all, D.allL_all]; rfl
@[simp] theorem anyBor_eq {xs : List D} : anyBor xs = !xs.all noBor := by simp [anyBor, D.allL_all]; rfl
@[simp] theorem all_vec {n : Nat} {g : Nat → D} {p : D → Bool} : (vec n g).all p = (List.range n).all fun k => p (g k) := by simp [vec, Function.comp_def]
@[simp] theorem all_true {n : Nat} : ((List.range n).all fun _ => true) = true := by simp
@[simp] theorem closed_int {i : Int} : closed (.int i) = true := by simp [closed, D.all]
@[simp] theorem closed_bl {i : Bool} : closed (.bl i) = true := by simp [closed, D.all]
@[simp] theorem closed_non : closed .non = true := by simp [closed, D.all]
@[simp] theorem closed_str {x : Str} : closed (.str x) = true := by simp [closed, D.all]
/-! ints -/
section
variable {a b : Int}
@[simp] theorem iAdd_int : iAdd (.int a) (.int b) = some (.int (a + b)) := rfl
@[simp] theorem iSub_int : iSub (.int a) (.int b) = some (.int (a - b)) := rfl
@[simp] theorem iLt_int : iLt (.int a) (.int b) = some (.bl (decide (a < b))) := rfl
@[simp] theorem iLe_int : iLe (.int a) (.int b) = some (.bl (decide (a ≤ b))) := rfl
@[simp] theorem iGt_int : iGt (.int a) (.int b) = some (.bl (decide (b < a))) := rfl
@[simp] theorem iGe_int : iGe (.int a) (.int b) = some (.bl (decide (b ≤ a))) := rfl
theorem iMod_int (h : 0 < b) : iMod (.int a) (.int b) = some (.int (a % b)) := by simp [iMod, dI2, cMod, h]
theorem iDiv_int (h : 0 < b) (h2 : b < 1073741824) : iDiv (.int a) (.int b) = some (.int (a / b)) := by simp [iDiv, dI2, cDivN, h, h2]
@[simp] theorem dAdd_int : dAdd (.int a) (.int b) = some (.int (a + b)) := rfl
theorem iMul_r (h : -18446744073709551616 < b) (h2 : b < 18446744073709551616) : iMul (.int a) (.int b) = some (.int (a * b)) := by simp [iMul, dI2, cMul, h, h2]
theorem dMul_r (h : -18446744073709551616 < b) (h2 : b < 18446744073709551616) : dMul (.int a) (.int b) = some (.int (a * b)) := by simp [dMul, dOr, iMul_r h h2]
theorem dMul_l (h : -18446744073709551616 < a) (h2 : a < 18446744073709551616) : dMul (.int a) (.int b) = some (.int (a * b)) := by simp [dMul, dOr, iMul, dI2, cMul, h, h2]
@[simp] theorem dEq_int : dEq (.int a) (.int b) = some (.bl (decide (a = b))) := by simp [dEq, D.flat, deq]; rfl
@[simp] theorem dNe_int : dNe (.int a) (.int b) = some (.bl (!decide (a = b))) := by simp [dNe, D.flat, deq]; rfl
@[simp] theorem dNeg_int : dNeg (.int a) = some (.int (-a)) := rfl
end
@[simp] theorem dEq_bl {a b : Bool} : dEq (.bl a) (.bl b) = some (.bl (a == b)) := by simp [dEq, D.flat, deq]
@[simp] theorem dNe_bl {a b : Bool} : dNe (.bl a) (.bl b) = some (.bl (a != b)) := by cases a <;> cases b <;> rfl
@[simp] theorem dNot_bl {a : Bool} : dNot (.bl a) = some (.bl (!a)) := rfl
theorem dAdd_lst {f g : Fl} {xs ys : List D} (hf : f ≠ .kon) (hg : g ≠ .kon) (h : xs.length + ys.length ≤ 16777216) : dAdd (.lst f xs) (.lst g ys) = some (.lst .own (xs ++ ys)) := by
  have : iAdd (.lst f xs) (.lst g ys) = none := rfl
  simp [dAdd, dOr, this, lCat, hf, hg, h]
/-- None, or a number -/
def oI : Option Int → D
  | none => .non
  | some i => .int i
@[simp] theorem tag_oI {g : Fl → Fl} {o : Option Int} : D.tag g (oI o) = oI o := by cases o <;> simp [oI]
@[simp] theorem noBor_oI {o : Option Int} : noBor (oI o) = true := by cases o <;> simp [oI]
@[simp] theorem oI_some {i : Int} : oI (some i) = .int i := rfl
@[simp] theorem oI_none : oI none = .non := rfl
@[simp] theorem dNot2_oI {o : Option Int} : dNot2 (oI o) .non = some (.bl o.isSome) := by cases o <;> rfl
@[simp] theorem dIs_oI {o : Option Int} : dIs (oI o) .non = some (.bl o.isNone) := by cases o <;> rfl
@[simp] theorem dIs_non_non : dIs .non .non = some (.bl true) := rfl
@[simp] theorem dIs_int_non {i : Int} : dIs (.int i) .non = some (.bl false) := rfl
@[simp] theorem dIs_bl_non {i : Bool} : dIs (.bl i) .non = some (.bl false) := rfl
@[simp] theorem dIs_str_non {i : Str} : dIs (.str i) .non = some (.bl false) := rfl
@[simp] theorem dIs_lst_non {f : Fl} {xs : List D} : dIs (.lst f xs) .non = some (.bl false) := rfl
@[simp] theorem dIs_tup_non {xs : List D} : dIs (.tup xs) .non = some (.bl false) := rfl
@[simp] theorem dIs_bl {i k : Bool} : dIs (.bl i) (.bl k) = some (.bl (i == k)) := rfl
@[simp] theorem dIs_int_bl {i : Int} {k : Bool} : dIs (.int i) (.bl k) = some (.bl false) := rfl
@[simp] theorem dIs_str_bl {i : Str} {k : Bool} : dIs (.str i) (.bl k) = some (.bl false) := rfl
@[simp] theorem dIs_non_bl {k : Bool} : dIs .non (.bl k) = some (.bl false) := rfl
@[simp] theorem dIs_lst_bl {f : Fl} {xs : List D} {k : Bool} : dIs (.lst f xs) (.bl k) = some (.bl false) := rfl
@[simp] theorem dIs_tup_bl {xs : List D} {k : Bool} : dIs (.tup xs) (.bl k) = some (.bl false) := rfl
@[simp] theorem dNot2_int_non {i : Int} : dNot2 (.int i) .non = some (.bl true) := rfl
@[simp] theorem dNot2_non_non : dNot2 .non .non = some (.bl false) := rfl
/-! items -/
theorem ixN_ok {n : Nat} {i : Int} (h0 : 0 ≤ i) (h1 : i < n) : ixN n i = some i.toNat := by simp [ixN, h0, h1]
theorem atI_ok {α : Type} {xs : List α} {i : Int} (h0 : 0 ≤ i) (h1 : i < xs.length) : atI xs i = xs[i.toNat]? := by simp [atI, ixN_ok h0 h1]
theorem dIx_vec {f : Fl} {n : Nat} {g : Nat → D} {i : Int} (h0 : 0 ≤ i) (h1 : i < n) : dIx (.lst f (vec n g)) (.int i) = some (g i.toNat) := by
  show atI (vec n g) i = _
  rw [atI_ok h0 (by simpa using h1), vec_get (by omega)]
theorem dIxL_vec {f : Fl} {n : Nat} {g : Nat → D} {i : Int} (h0 : 0 ≤ i) (h1 : i < n) : dIxL (.lst f (vec n g)) (.int i) = some (g i.toNat) := dIx_vec (f := f) h0 h1
theorem dIx_lst {f : Fl} {xs : List D} {i : Int} (h0 : 0 ≤ i) (h1 : i < xs.length) : dIx (.lst f xs) (.int i) = xs[i.toNat]? := atI_ok h0 h1
theorem dIx_lit {f : Fl} {xs : List D} {i : Int} : dIx (.lst f xs) (.int i) = atI xs i := rfl
theorem dIx_litT {xs : List D} {i : Int} : dIx (.tup xs) (.int i) = atI xs i := rfl
theorem gSetL_vec {n : Nat} {g : Nat → D} {i : Int} {d : D} (h0 : 0 ≤ i) (h1 : i < n) : gSetL (.lst .own (vec n g)) (.int i) d = some (.lst .own (vec n fun k => if k = i.toNat then d else g k)) := by
  simp [gSetL, ixN_ok h0 h1]
theorem gSetL_lst {xs : List D} {i : Int} {d : D} (h0 : 0 ≤ i) (h1 : i < xs.length) : gSetL (.lst .own xs) (.int i) d = some (.lst .own (xs.set i.toNat d)) := by
  simp [gSetL, ixN_ok h0 h1]
@[simp] theorem fLen_lst {f : Fl} {xs : List D} : fLen [.lst f xs] = some (.int xs.length) := rfl
@[simp] theorem fLen_tup {xs : List D} : fLen [.tup xs] = some (.int xs.length) := rfl
@[simp] theorem fList_lst {f : Fl} {xs : List D} : fList [.lst f xs] = some (.lst .own xs) := rfl
@[simp] theorem fList_tup {xs : List D} : fList [.tup xs] = some (.lst .own xs) := rfl
@[simp] theorem fTuple_lst {f : Fl} {xs : List D} : fTuple [.lst f xs] = some (.tup xs) := rfl
@[simp] theorem fInt_int {i : Int} : fInt [.int i] = some (.int i) := rfl
@[simp] theorem fInt_bl {i : Bool} : fInt [.bl i] = some (.int (if i = true then 1 else 0)) := rfl
@[simp] theorem fAbs_int {i : Int} : fAbs [.int i] = some (.int (if i < 0 then -i else i)) := rfl
@[simp] theorem fMax2_int {i j : Int} : fMax2 [.int i, .int j] = some (.int (if j > i then j else i)) := rfl
@[simp] theorem fMin2_int {i j : Int} : fMin2 [.int i, .int j] = some (.int (if j < i then j else i)) := rfl
theorem dints_vec {n : Nat} {g : Nat → Int} : dints (vec n fun k => .int (g k)) = some ((List.range n).map g) := by rw [vec_map]; exact ints_map _
theorem dbools_vec {n : Nat} {g : Nat → Bool} : dbools (vec n fun k => .bl (g k)) = some ((List.range n).map g) := by rw [vec_map]; exact bools_map _
/-- a sum by its places -/
def sumN : Nat → (Nat → Int) → Int
  | 0, _ => 0
  | n + 1, g => sumN n g + g n
theorem sumN_eq (g : Nat → Int) : ∀ n, ((List.range n).map g).sum = sumN n g
  | 0 => rfl
  | n + 1 => by rw [List.range_succ, List.map_append, List.sum_append, sumN_eq g n]; simp [sumN]
@[simp] theorem fSum_vec {f : Fl} {n : Nat} {g : Nat → Int} : fSum [.lst f (vec n fun k => .int (g k))] = some (.int (sumN n g)) := by simp [fSum, dints_vec, sumN_eq]
@[simp] theorem fAll_vec {f : Fl} {n : Nat} {g : Nat → Bool} : fAll [.lst f (vec n fun k => .bl (g k))] = some (.bl ((List.range n).all g)) := by simp [fAll, dbools_vec, List.all_map, Function.comp_def]
@[simp] theorem fAny_vec {f : Fl} {n : Nat} {g : Nat → Bool} : fAny [.lst f (vec n fun k => .bl (g k))] = some (.bl ((List.range n).any g)) := by simp [fAny, dbools_vec, List.any_map, Function.comp_def]
theorem fSorted_vec {f : Fl} {n : Nat} {g : Nat → Int} : fSorted [.lst f (vec n fun k => .int (g k))] = some (.lst .own ((isort ((List.range n).map g)).map .int)) := by simp [fSorted, dints_vec]
theorem fLst_few {ds : List D} (h : ds.length ≤ 1000) : fLst ds = some (.lst .own ds) := by simp [fLst, h]
theorem fTup_few {ds : List D} (h : ds.length ≤ 1000) : fTup ds = some (.tup ds) := by simp [fTup, h]
/-! walks -/
theorem rng_vec {lo : Int} {n : Nat} : rng lo n = vec n fun k => .int (lo + k) := rfl
theorem rngC_vec {lo c : Int} {n : Nat} : rngC lo c n = vec n fun k => .int (lo + k * c) := rfl
@[simp] theorem rng_len' {lo : Int} {n : Nat} : (rng lo n).length = n := by simp [rng_vec]
@[simp] theorem rngC_len {lo c : Int} {n : Nat} : (rngC lo c n).length = n := by simp [rngC_vec]
@[simp] theorem rng_some {lo : Int} {n k : Nat} {d : D} : (rng lo n)[k]? = some d ↔ k < n ∧ d = .int (lo + k) := by rw [rng_vec, vec_some]
@[simp] theorem rngC_some {lo c : Int} {n k : Nat} {d : D} : (rngC lo c n)[k]? = some d ↔ k < n ∧ d = .int (lo + k * c) := by rw [rngC_vec, vec_some]
/-! frames -/
@[simp] theorem picks_nil {ρ : List Sl} : picks [] ρ = [] := by simp [picks]
@[simp] theorem picks_t {mu : List Bool} {k : Bool} {d : D} {ρ : List Sl} : picks (true :: mu) (.val k d :: ρ) = d :: picks mu ρ := by simp [picks]
@[simp] theorem picks_f {mu : List Bool} {s : Sl} {ρ : List Sl} : picks (false :: mu) (s :: ρ) = picks mu ρ := by simp [picks]
@[simp] theorem isi_int_int {i : Int} : dIsi .intT (.int i) = some (.bl true) := rfl
@[simp] theorem isi_bl_int {i : Int} : dIsi .blT (.int i) = some (.bl false) := rfl
@[simp] theorem isi_int_bl {i : Bool} : dIsi .intT (.bl i) = some (.bl true) := rfl
@[simp] theorem isi_bl_bl {i : Bool} : dIsi .blT (.bl i) = some (.bl true) := rfl
@[simp] theorem isi_lst_lst {f : Fl} {xs : List D} : dIsi .lstT (.lst f xs) = some (.bl true) := rfl
@[simp] theorem isi_int_lst {f : Fl} {xs : List D} : dIsi .intT (.lst f xs) = some (.bl false) := rfl
@[simp] theorem isi_str_lst {f : Fl} {xs : List D} : dIsi .strT (.lst f xs) = some (.bl false) := rfl
@[simp] theorem isi_tup_lst {f : Fl} {xs : List D} : dIsi .tupT (.lst f xs) = some (.bl false) := rfl
@[simp] theorem isi_dct_lst {f : Fl} {xs : List D} : dIsi .dctT (.lst f xs) = some (.bl false) := rfl
@[simp] theorem isi_lst_tup {xs : List D} : dIsi .lstT (.tup xs) = some (.bl false) := rfl
@[simp] theorem isi_int_tup {xs : List D} : dIsi .intT (.tup xs) = some (.bl false) := rfl
@[simp] theorem isi_str_tup {xs : List D} : dIsi .strT (.tup xs) = some (.bl false) := rfl
@[simp] theorem isi_tup_tup {xs : List D} : dIsi .tupT (.tup xs) = some (.bl true) := rfl
@[simp] theorem isi_dct_tup {xs : List D} : dIsi .dctT (.tup xs) = some (.bl false) := rfl
@[simp] theorem isi_str_str {x : Str} : dIsi .strT (.str x) = some (.bl true) := rfl
@[simp] theorem isi_int_str {x : Str} : dIsi .intT (.str x) = some (.bl false) := rfl
end DL

namespace DL
open PySem PySem.Spec L2
/-! ### equal but for the flags -/
def un (d : D) : D := d.tag fun _ => .own
def unL (ds : List D) : List D := D.tagL (fun _ => .own) ds
@[simp] theorem un_tag {f : Fl → Fl} {d : D} : un (d.tag f) = un d := tag_tag d
@[simp] theorem unL_tag {f : Fl → Fl} {d : List D} : unL (D.tagL f d) = unL d := tagL_tagL d
@[simp] theorem un_int {i : Int} : un (.int i) = .int i := by simp [un]
@[simp] theorem un_bl {i : Bool} : un (.bl i) = .bl i := by simp [un]
@[simp] theorem un_non : un .non = .non := by simp [un]
@[simp] theorem un_str {i : Str} : un (.str i) = .str i := by simp [un]
@[simp] theorem un_oI {i : Option Int} : un (oI i) = oI i := by simp [un]
@[simp] theorem un_tup {xs : List D} : un (.tup xs) = .tup (unL xs) := by simp [un, unL]
@[simp] theorem un_lst {f : Fl} {xs : List D} : un (.lst f xs) = .lst .own (unL xs) := by simp [un, unL]
@[simp] theorem unL_nil : unL [] = [] := by simp [unL]
@[simp] theorem unL_cons {x : D} {xs : List D} : unL (x :: xs) = un x :: unL xs := by simp [un, unL]
@[simp] theorem unL_vec {n : Nat} {g : Nat → D} : unL (vec n g) = vec n fun k => un (g k) := by simp [un, unL]
theorem unL_map {xs : List D} : unL xs = xs.map un := by simp [unL, un, D.tagL_map]
theorem un_eq_non {d : D} (h : un d = .non) : d = .non := by cases d <;> simp [un] at h ⊢
theorem un_eq_bl {d : D} {b : Bool} (h : un d = .bl b) : d = .bl b := by cases d <;> simp [un] at h ⊢; exact h
theorem un_eq_int {d : D} {b : Int} (h : un d = .int b) : d = .int b := by cases d <;> simp [un] at h ⊢; exact h
theorem un_eq_str {d : D} {b : Str} (h : un d = .str b) : d = .str b := by cases d <;> simp [un] at h ⊢; exact h
theorem un_eq_tup {d : D} {xs : List D} (h : un d = .tup xs) : ∃ ys, d = .tup ys ∧ unL ys = xs := by cases d <;> simp [un] at h ⊢; exact h
theorem un_eq_lst {d : D} {f : Fl} {xs : List D} (h : un d = .lst f xs) : ∃ g ys, d = .lst g ys ∧ unL ys = xs := by
  cases d <;> first | (simp [un] at h; done) | skip
  rename_i g ys
  rw [un_lst] at h
  cases h
  exact ⟨g, ys, rfl, rfl⟩
mutual
theorem flat_tag {f : Fl → Fl} : ∀ (d : D) (n : Nat), D.flat n (d.tag f) = D.flat n d
  | .non, n => by simp
  | .bl b, n => by simp
  | .int i, n => by simp
  | .str x, n => by simp
  | .hole, n => by simp
  | .tup xs, n => by cases n <;> simp [D.flat, flat_tagL xs]
  | .lst _ xs, n => by cases n <;> simp [D.flat, flat_tagL xs]
  | .dik _ _ xs, n => by simp [D.flat]
  | .dit _ _ xs, n => by simp [D.flat]
  | .obj _ _ _ xs, n => by simp [D.flat]
theorem flat_tagL {f : Fl → Fl} : ∀ (ds : List D) (n : Nat), D.flatL n (D.tagL f ds) = D.flatL n ds
  | [], n => by simp
  | d :: ds, n => by simp [D.flatL, flat_tag d, flat_tagL ds]
end
theorem flatL_all {n : Nat} : ∀ {ds : List D}, D.flatL n ds = ds.all (D.flat n)
  | [] => by simp [D.flatL]
  | d :: ds => by simp [D.flatL, flatL_all (ds := ds)]
@[simp] theorem flat_int {n : Nat} {i : Int} : D.flat n (.int i) = true := by cases n <;> simp [D.flat]
@[simp] theorem flat_bl {n : Nat} {i : Bool} : D.flat n (.bl i) = true := by cases n <;> simp [D.flat]
@[simp] theorem flat_non {n : Nat} : D.flat n .non = true := by cases n <;> simp [D.flat]
@[simp] theorem flat_str {n : Nat} {i : Str} : D.flat n (.str i) = true := by cases n <;> simp [D.flat]
@[simp] theorem flat_oI {n : Nat} {i : Option Int} : D.flat n (oI i) = true := by cases i <;> simp
@[simp] theorem flat_lst {n : Nat} {f : Fl} {xs : List D} : D.flat (n + 1) (.lst f xs) = xs.all (D.flat n) := by simp [D.flat, flatL_all]
@[simp] theorem flat_tup {n : Nat} {xs : List D} : D.flat (n + 1) (.tup xs) = xs.all (D.flat n) := by simp [D.flat, flatL_all]
theorem flat_lst0 {f : Fl} {xs : List D} : D.flat 0 (.lst f xs) = false := by simp [D.flat]
theorem flat_tup0 {xs : List D} : D.flat 0 (.tup xs) = false := by simp [D.flat]
@[simp] theorem dEq_str {a b : Str} : dEq (.str a) (.str b) = some (.bl (a == b)) := by simp [dEq, D.flat, deq]
/-- lists and tuples of scalars, n deep, not long -/
def pln : Nat → D → Bool
  | _, .non => true
  | _, .bl _ => true
  | _, .int _ => true
  | _, .str _ => true
  | n + 1, .lst _ xs => decide (xs.length ≤ 1048576) && xs.all (pln n)
  | n + 1, .tup xs => decide (xs.length ≤ 1048576) && xs.all (pln n)
  | _, _ => false
@[simp] theorem pln_int {n : Nat} {i : Int} : pln n (.int i) = true := by cases n <;> simp [pln]
@[simp] theorem pln_bl {n : Nat} {i : Bool} : pln n (.bl i) = true := by cases n <;> simp [pln]
@[simp] theorem pln_non {n : Nat} : pln n .non = true := by cases n <;> simp [pln]
@[simp] theorem pln_str {n : Nat} {i : Str} : pln n (.str i) = true := by cases n <;> simp [pln]
@[simp] theorem pln_oI {n : Nat} {i : Option Int} : pln n (oI i) = true := by cases i <;> simp
@[simp] theorem pln_lst {n : Nat} {f : Fl} {xs : List D} : pln (n + 1) (.lst f xs) = (decide (xs.length ≤ 1048576) && xs.all (pln n)) := by simp [pln]
@[simp] theorem pln_tup {n : Nat} {xs : List D} : pln (n + 1) (.tup xs) = (decide (xs.length ≤ 1048576) && xs.all (pln n)) := by simp [pln]
theorem pln_tag {f : Fl → Fl} : ∀ (n : Nat) (d : D), pln n (d.tag f) = pln n d
  | 0, d => by cases d <;> simp [pln]
  | n + 1, .non => by simp
  | n + 1, .bl b => by simp
  | n + 1, .int i => by simp
  | n + 1, .str x => by simp
  | n + 1, .hole => by simp [pln]
  | n + 1, .tup xs => by simp [D.tagL_map, Function.comp_def, pln_tag n]
  | n + 1, .lst _ xs => by simp [D.tagL_map, Function.comp_def, pln_tag n]
  | n + 1, .dik _ _ xs => by simp [pln]
  | n + 1, .dit _ _ xs => by simp [pln]
  | n + 1, .obj _ _ _ xs => by simp [pln]
/-- the answer is True -/
def RTrue (r : D × List D) : Prop := r = (.bl true, [])
theorem rtrue : RTrue (.bl true, []) := rfl
end DL

namespace DL
open PySem PySem.Spec L2
section
variable {ρ ρ0 : List Sl} {m m2 : Em} {s : Sm} {j : Nat} {P : Fw → Prop}
/-- for x in range(n) -/
theorem wp_forR (n : Nat) (Inv : Nat → List Sl → Prop) (hm : Wp (m ρ) (· = (.int n, ρ0))) (hn : (n : Int) < 4611686018427387904) (h0 : Inv 0 ρ0) (turn : ∀ k ρ, k < n → Inv k ρ → Sto ρ[j]? (Wp (s (ρ.set j (.val false (.int k)))) (Turn (Inv (k + 1)) P))) (fin : ∀ ρ, Inv n ρ → P (.nx ρ)) : Wp (sFor (iRng1 m) (tgN j) s ρ) P := by
  refine wp_for Inv ?_
  rw [w_iRng1]
  refine hm.mono ?_
  rintro _ rfl
  simp only [in_int, rng_some, Int.zero_add, Int.toNat_natCast, rng_len']
  refine ⟨⟨by omega, hn⟩, h0, ?_, fin⟩
  rintro k d ρ ⟨hk, rfl⟩ hi
  rw [w_tgN]
  exact turn k ρ hk hi
/-- for x in reversed(range(n)) -/
theorem wp_forRev (n : Nat) (Inv : Nat → List Sl → Prop) (hm : Wp (m ρ) (· = (.int n, ρ0))) (hn : (n : Int) < 4611686018427387904) (h0 : Inv 0 ρ0) (turn : ∀ k ρ, k < n → Inv k ρ → Sto ρ[j]? (Wp (s (ρ.set j (.val false (.int (n - 1 - k : Nat))))) (Turn (Inv (k + 1)) P))) (fin : ∀ ρ, Inv n ρ → P (.nx ρ)) : Wp (sFor (iRevR m) (tgN j) s ρ) P := by
  refine wp_for Inv ?_
  rw [w_iRevR]
  refine hm.mono ?_
  rintro _ rfl
  simp only [in_int, rngC_some, Int.toNat_natCast, rngC_len]
  refine ⟨⟨by omega, hn⟩, h0, ?_, fin⟩
  rintro k d ρ ⟨hk, rfl⟩ hi
  rw [w_tgN]
  have e : ((n : Int) - 1 + (k : Int) * (-1)) = ((n - 1 - k : Nat) : Int) := by omega
  rw [e]
  exact turn k ρ hk hi
/-- for x in a list -/
theorem wp_forX (xs : List D) (Inv : Nat → List Sl → Prop) (hm : Wp (m ρ) (fun x => Seq x.1 (· = xs) ∧ x.2 = ρ0)) (h0 : Inv 0 ρ0) (turn : ∀ k d ρ, xs[k]? = some d → Inv k ρ → Sto ρ[j]? (Wp (s (ρ.set j (.val false (d.tag toShr)))) (Turn (Inv (k + 1)) P))) (fin : ∀ ρ, Inv xs.length ρ → P (.nx ρ)) : Wp (sFor (iLst m) (tgN j) s ρ) P := by
  refine wp_for Inv ?_
  rw [w_iLst]
  refine hm.mono ?_
  rintro ⟨d0, ρ1⟩ ⟨h1, rfl⟩
  have main : ∀ ys, ys = xs → Inv 0 ρ1 ∧ (∀ j_1 d ρ, (D.tagL toShr ys)[j_1]? = some d → Inv j_1 ρ → Op (tgN j d ρ) fun ρ1 => Wp (s ρ1) (Turn (Inv (j_1 + 1)) P)) ∧ ∀ ρ, Inv (D.tagL toShr ys).length ρ → P (.nx ρ) := by
    rintro ys rfl
    refine ⟨h0, ?_, by simpa using fin⟩
    intro k d ρ hk hi
    rw [tagL_get] at hk
    cases e : ys[k]? with
    | none => rw [e] at hk; cases hk
    | some d1 =>
      rw [e] at hk
      cases hk
      rw [w_tgN]
      exact turn k d1 ρ e hi
  cases d0 <;> first | exact h1.elim | skip
  · exact main _ h1
  · exact main _ h1
/-- [e for x in range(n)], the frame as it was -/
theorem wp_lcR {e : Em} {P : D × List Sl → Prop} (n : Nat) (g : Nat → D) (hm : Wp (m ρ) (· = (.int n, ρ0))) (hn : n ≤ 16777216) (he : ρ0[j]? = some .emp) (turn : ∀ k, k < n → Wp (e (ρ0.set j (.val false (.int k)))) (· = (g k, ρ0.set j (.val false (.int k))))) (fin : P (.lst .own (vec n g), ρ0)) : Wp (eLc (iRng1 m) [j] (tgN j) eT e ρ) P := by
  refine wp_lcF g ?_
  rw [w_iRng1]
  refine hm.mono ?_
  rintro _ rfl
  simp only [in_int, rng_some, Int.zero_add, Int.toNat_natCast, rng_len']
  refine ⟨by omega, he, hn, ?_, fin⟩
  rintro k d ⟨hk, rfl⟩
  exact turn k hk
/-- [e for x in range(a, b)] -/
theorem wp_lcR2 {e : Em} {P : D × List Sl → Prop} (a b : Int) (g : Nat → D) (hm : Wp (m ρ) (· = (.int a, ρ0))) (hm2 : Wp (m2 ρ0) (· = (.int b, ρ0))) (hn : (b - a).toNat ≤ 16777216) (ha : -4611686018427387904 ≤ a ∧ a < 4611686018427387904 ∧ -4611686018427387904 ≤ b ∧ b < 4611686018427387904) (he : ρ0[j]? = some .emp) (turn : ∀ k : Nat, k < (b - a).toNat → Wp (e (ρ0.set j (.val false (.int (a + k))))) (· = (g k, ρ0.set j (.val false (.int (a + k)))))) (fin : P (.lst .own (vec (b - a).toNat g), ρ0)) : Wp (eLc (iRng2 m m2) [j] (tgN j) eT e ρ) P := by
  refine wp_lcF g ?_
  rw [w_iRng2]
  refine hm.mono ?_
  rintro _ rfl
  refine hm2.mono ?_
  rintro _ rfl
  simp only [in_int, rng_some, rng_len']
  refine ⟨ha, he, hn, ?_, fin⟩
  rintro k d ⟨hk, rfl⟩
  exact turn k hk
/-- [e for x in xs] -/
theorem wp_lcX {e : Em} {P : D × List Sl → Prop} (xs : List D) (g : Nat → D) (hm : Wp (m ρ) (fun x => Seq x.1 (· = xs) ∧ x.2 = ρ0)) (hn : xs.length ≤ 16777216) (he : ρ0[j]? = some .emp) (turn : ∀ k d, xs[k]? = some d → Wp (e (ρ0.set j (.val false (d.tag toShr)))) (· = (g k, ρ0.set j (.val false (d.tag toShr))))) (fin : P (.lst .own (vec xs.length g), ρ0)) : Wp (eLc (iLst m) [j] (tgN j) eT e ρ) P := by
  refine wp_lcF g ?_
  rw [w_iLst]
  refine hm.mono ?_
  rintro ⟨d0, ρ1⟩ ⟨h1, rfl⟩
  have main : ∀ ys, ys = xs → ρ1[j]? = some .emp ∧ (D.tagL toShr ys).length ≤ 16777216 ∧ (∀ k d, (D.tagL toShr ys)[k]? = some d → Wp (e (ρ1.set j (.val false d))) fun y => y = (g k, ρ1.set j (.val false d))) ∧ P (.lst .own ((List.range (D.tagL toShr ys).length).map g), ρ1) := by
    rintro ys rfl
    refine ⟨he, by simpa using hn, ?_, by rw [tagL_len]; exact fin⟩
    intro k d hk
    rw [tagL_get] at hk
    cases e : ys[k]? with
    | none => rw [e] at hk; cases hk
    | some d1 =>
      rw [e] at hk
      cases hk
      exact turn k d1 e
  cases d0 <;> first | exact h1.elim | skip
  · exact main _ h1
  · exact main _ h1
/-- [e for x in range(n)], the frame changes -/
theorem wp_lcI {e : Em} {P : D × List Sl → Prop} (n : Nat) (Inv : Nat → List D → List Sl → Prop) (hm : Wp (m ρ) (· = (.int n, ρ0))) (hn : n ≤ 16777216) (he : ρ0[j]? = some .emp) (h0 : Inv 0 [] ρ0) (turn : ∀ k acc ρ, k < n → Inv k acc ρ → Sto ρ[j]? (Wp (e (ρ.set j (.val false (.int k)))) (fun y => Inv (k + 1) (acc ++ [y.1]) (y.2.set j .emp)))) (fin : ∀ acc ρ, Inv n acc ρ → P (.lst .own acc, ρ)) : Wp (eLc (iRng1 m) [j] (tgN j) eT e ρ) P := by
  refine wp_lc Inv ?_
  rw [w_iRng1]
  refine hm.mono ?_
  rintro _ rfl
  simp only [in_int, rng_some, Int.zero_add, Int.toNat_natCast, rng_len']
  refine ⟨by omega, by simp [empAt, he], hn, h0, ?_, fin⟩
  rintro k d acc ρ ⟨hk, rfl⟩ hi
  rw [w_tgN]
  have := turn k acc ρ hk hi
  cases e1 : ρ[j]? with
  | none => rw [e1] at this; exact this.elim
  | some s =>
    rw [e1, sto_some] at this
    exact ⟨this.1, w_eT.mpr (by rw [if_pos rfl]; exact this.2)⟩
end
section
variable {f : Fl} {n i : Nat} {g : Nat → D} {d : D}
theorem dIx_at (h : i < n) : dIx (.lst f (vec n g)) (.int i) = some (g i) := by rw [dIx_vec (by omega) (by omega), Int.toNat_natCast]
theorem dIx_at1 (h : i + 1 < n) : dIx (.lst f (vec n g)) (.int ((i : Int) + 1)) = some (g (i + 1)) := by
  have e : ((i : Int) + 1) = ((i + 1 : Nat) : Int) := by omega
  rw [e, dIx_at h]
theorem dIx_atP (h0 : 0 < i) (h : i < n + 1) : dIx (.lst f (vec n g)) (.int ((i : Int) - 1)) = some (g (i - 1)) := by
  have e : ((i : Int) - 1) = ((i - 1 : Nat) : Int) := by omega
  rw [e, dIx_at (by omega)]
theorem dIxL_at (h : i < n) : dIxL (.lst f (vec n g)) (.int i) = some (g i) := by rw [dIxL_vec (by omega) (by omega), Int.toNat_natCast]
theorem gSetL_at (h : i < n) : gSetL (.lst .own (vec n g)) (.int i) d = some (.lst .own (vec n fun k => if k = i then d else g k)) := by rw [gSetL_vec (by omega) (by omega), Int.toNat_natCast]
end
/-- a frame has K; simp leaves it -/
def Hold (K : List Sl → Prop) (ρ : List Sl) : Prop := K ρ
theorem wp_seqI {s t : Sm} {ρ : List Sl} {P : Fw → Prop} (K : List Sl → Prop) (h : Wp (s ρ) (Nx (Hold K) fun _ => False)) (k : ∀ ρ1, K ρ1 → Wp (t ρ1) P) : Wp (sSeq s t ρ) P := by
  rw [w_sSeq]
  refine h.mono fun f hf => ?_
  cases f with
  | nx ρ1 => exact k ρ1 hf
  | bk _ => exact hf.elim
  | ct _ => exact hf.elim
  | rt _ _ => exact hf.elim
/-- .. where the statement may return -/
theorem wp_seqR {s t : Sm} {ρ : List Sl} {P : Fw → Prop} (K : List Sl → Prop) (h : Wp (s ρ) (Nx (Hold K) P)) (k : ∀ ρ1, K ρ1 → Wp (t ρ1) P) : Wp (sSeq s t ρ) P := by
  rw [w_sSeq]
  refine h.mono fun f hf => ?_
  cases f with
  | nx ρ1 => exact k ρ1 hf
  | bk _ => exact hf
  | ct _ => exact hf
  | rt _ _ => exact hf
end DL

namespace DL
open PySem PySem.Spec L2
/-! ### what ends in an error -/
def Wx {α : Type} (r : R α) (x : Xn) : Prop := r = .exn x
section
variable {ρ ρ0 : List Sl} {x : Xn} {p p1 : Pm} {q : PA'} {s t : Sm} {m : Em} {b : Eb}
theorem Wx.bind {α β : Type} {r : R α} {f : α → R β} (h : Wx r x) : Wx (r.bind f) x := by unfold Wx at h ⊢; rw [h]; rfl
theorem Wp.bindx {α β : Type} {r : R α} {f : α → R β} (h : Wp r fun a => Wx (f a) x) : Wx (r.bind f) x := by
  obtain ⟨a, e, h⟩ := h
  unfold Wx at h ⊢
  rw [e]
  exact h
theorem wx_seq (h : Wx (s ρ) x) : Wx (sSeq s t ρ) x := Wx.bind h
theorem wx_seqR (h : Wp (s ρ) (· = .nx ρ0)) (k : Wx (t ρ0) x) : Wx (sSeq s t ρ) x := Wp.bindx (h.mono fun f e => by subst e; exact k)
theorem wx_expr (h : Wx (m ρ) x) : Wx (sExpr m ρ) x := Wx.bind h
theorem wx_eP (h : Wx (p ρ) x) : Wx (eP p ρ) x := Wx.bind h
theorem wx_ret (h : Wx (m ρ) x) : Wx (sRet m ρ) x := Wx.bind h
theorem wx_call {k : Nat} {G : Gf} (h : Wp (q ρ) fun ds => ds.length = k ∧ Wx (G (D.tagL toShr ds)) x) : Wx (pCall k G q ρ) x := Wp.bindx (h.mono fun ds ⟨e, h⟩ => by
  rw [if_pos e]
  unfold Wx at h ⊢
  rw [h])
theorem wx_if (h : Wp (b ρ) fun y => if y.1 = true then Wx (s y.2) x else Wx (t y.2) x) : Wx (sIf b s t ρ) x := Wp.bindx (h.mono fun y h => by
  by_cases c : y.1 = true
  · rw [if_pos c] at h ⊢; exact h
  · rw [if_neg c] at h ⊢; exact h)
theorem wx_raise {c fld : Str} {d : D} {v : V} (h : Wp (p ρ) (· = d)) (e : scal0 d = some v) : Wx (sRaise c fld p ρ) ⟨c, fld, d⟩ := Wp.bindx (h.mono fun d' e' => by subst e'; unfold Wx; rw [e])
theorem wx_body {mu : List Bool} {N : Nat} {b : Sm} {ds : List D} (hl : ds.length = mu.length) (h : Wx (b (sl0 mu ds ++ List.replicate N .emp)) x) : Wx (bodyG mu N b ds) x := by
  unfold bodyG Wx at *
  rw [if_pos hl, h]
/-- refused, as asked -/
theorem w_pRef {z : Str} {P : D → Prop} (h : Wx (p ρ) ⟨"BadValue", "where", .str z⟩) (k : P (.bl true)) : Wp (pRef p z ρ) P := by
  unfold pRef
  rw [show p ρ = .exn ⟨"BadValue", "where", .str z⟩ from h]
  simp
  exact k
end
/-- for (i, x) in enumerate(xs) -/
theorem wp_forE {ρ ρ0 : List Sl} {m : Em} {s : Sm} {a b : Nat} {P : Fw → Prop} (n : Nat) (g : Nat → D) (Inv : Nat → List Sl → Prop) (hm : Wp (m ρ) (fun x => (∃ f, x.1 = .lst f (vec n g)) ∧ x.2 = ρ0)) (h0 : Inv 0 ρ0)
    (turn : ∀ k ρ, k < n → Inv k ρ → Sto ρ[a]? (Sto (ρ.set a (.val false (.int k)))[b]? (Wp (s ((ρ.set a (.val false (.int k))).set b (.val false ((g k).tag toShr)))) (Turn (Inv (k + 1)) P)))) (fin : ∀ ρ, Inv n ρ → P (.nx ρ)) : Wp (sFor (iEnu m) (tgT [tgN a, tgN b]) s ρ) P := by
  refine wp_for Inv ?_
  unfold iEnu
  rw [wp_bind]
  refine hm.mono ?_
  rintro ⟨d0, ρ1⟩ ⟨⟨f, h1⟩, h2⟩
  dsimp only at h1 h2
  subst h1 h2
  simp only [wp_ok, tagL_vec, enumD_len, vec_len]
  refine ⟨h0, ?_, fin⟩
  intro k d ρ hk hi
  rw [enumD_get] at hk
  cases e : (vec n fun k => (g k).tag toShr)[k]? with
  | none => rw [e] at hk; cases hk
  | some d1 =>
    rw [e] at hk
    cases hk
    obtain ⟨hkn, rfl⟩ := vec_some.mp e
    have t := turn k ρ hkn hi
    show Op (tgL [tgN a, tgN b] [.int ((0 + k : Nat) : Int), (g k).tag toShr] ρ) _
    rw [Nat.zero_add]
    unfold tgL tgN
    cases e1 : ρ[a]? with
    | none => rw [e1] at t; exact t.elim
    | some s1 =>
      rw [e1, sto_some] at t
      obtain ⟨f1, t⟩ := t
      have go : Op (tgL [tgN b] [(g k).tag toShr] (ρ.set a (.val false (.int k)))) fun ρ1 => Wp (s ρ1) (Turn (Inv (k + 1)) P) := by
        unfold tgL tgN
        cases e2 : (ρ.set a (.val false (.int k)))[b]? with
        | none => rw [e2] at t; exact t.elim
        | some s2 =>
          rw [e2, sto_some] at t
          obtain ⟨f2, t⟩ := t
          cases s2 with
          | emp => simpa [tgL] using t
          | val kk d2 => cases kk with
            | true => exact f2.elim
            | false => simpa [tgL] using t
      cases s1 with
      | emp => exact go
      | val kk d2 => cases kk with
        | true => exact f1.elim
        | false => exact go
end DL

namespace DL
open PySem PySem.Spec L2

/-! ### the native layer: what a program on data does, told by a program on Lean's own types -/
/-- d does what n tells, seen through E; where n is stuck nothing is said -/
def RfD {α β : Type} (d : R β) (E : α → β) (n : R α) : Prop := match n with
  | .ok x => d = .ok (E x)
  | .exn x => d = .exn x
  | .stuck => True
structure Rf {α β : Type} (d : R β) (E : α → β) (n : R α) : Prop where
  h : RfD d E n

/-! embeddings -/
def jI : Int → D := .int
def jB : Bool → D := .bl
def jS : Str → D := .str
def jU : Unit → D := fun _ => .non
def jL {α : Type} (f : Fl) (e : α → D) : List α → D := fun xs => .lst f (xs.map e)
def jO {α : Type} (e : α → D) : Option α → D
  | none => .non
  | some x => e x
def jT {α : Type} (es : α → List D) : α → D := fun x => .tup (es x)
def jR {α : Type} (f : Fl) (es : α → List D) : α → D := fun x => .lst f (es x)
def j0 : Unit → List D := fun _ => []
def j1 {α : Type} (e : α → D) : α → List D := fun x => [e x]
def jC {α β : Type} (e : α → D) (es : β → List D) : α × β → List D := fun p => e p.1 :: es p.2
/-- tuples of any length -/
def jV {α : Type} (e : α → D) : List α → List D := fun xs => xs.map e

/-- how flags change -/
class JTag (g : Fl → Fl) {α : Type} (e : α → D) (e' : outParam (α → D)) : Prop where h : ∀ x, (e x).tag g = e' x
class JTagL (g : Fl → Fl) {α : Type} (e : α → List D) (e' : outParam (α → List D)) : Prop where h : ∀ x, D.tagL g (e x) = e' x
class JTagF (g : Fl → Fl) (f : Fl) (f' : outParam Fl) : Prop where h : g f = f'
instance : JTagF toBor .own .bor := ⟨rfl⟩
instance : JTagF toBor .shr .shr := ⟨rfl⟩
instance : JTagF toBor .bor .bor := ⟨rfl⟩
instance : JTagF toBor .kon .kon := ⟨rfl⟩
instance : JTagF toShr .own .shr := ⟨rfl⟩
instance : JTagF toShr .shr .shr := ⟨rfl⟩
instance : JTagF toShr .bor .shr := ⟨rfl⟩
instance : JTagF toShr .kon .kon := ⟨rfl⟩
instance : JTagF toBorR .own .own := ⟨rfl⟩
instance : JTagF toBorR .shr .bor := ⟨rfl⟩
instance : JTagF toBorR .bor .bor := ⟨rfl⟩
instance : JTagF toBorR .kon .kon := ⟨rfl⟩
section
variable {g : Fl → Fl} {f f' : Fl} {α β : Type} {e e' : α → D} {es es' : β → List D}
instance : JTag g jI jI := ⟨fun _ => tag_int⟩
instance : JTag g jB jB := ⟨fun _ => tag_bl⟩
instance : JTag g jS jS := ⟨fun _ => tag_str⟩
instance : JTag g jU jU := ⟨fun _ => tag_non⟩
instance [h : JTag g e e'] : JTag g (jO e) (jO e') := ⟨fun x => by cases x with
  | none => exact tag_non
  | some x => exact h.h x⟩
instance [k : JTagF g f f'] [h : JTag g e e'] : JTag g (jL f e) (jL f' e') := ⟨fun x => by
  show D.tag g (.lst f (x.map e)) = .lst f' (x.map e')
  rw [tag_lst, k.h, D.tagL_map, List.map_map]
  congr 1
  exact List.map_congr_left fun y _ => h.h y⟩
instance : JTagL g j0 j0 := ⟨fun _ => tagL_nil⟩
instance [h : JTag g e e'] : JTagL g (j1 e) (j1 e') := ⟨fun x => by
  show D.tagL g [e x] = [e' x]
  rw [tagL_cons, tagL_nil, h.h]⟩
instance [h : JTag g e e'] [hs : JTagL g es es'] : JTagL g (jC e es) (jC e' es') := ⟨fun x => by
  show D.tagL g (e x.1 :: es x.2) = e' x.1 :: es' x.2
  rw [tagL_cons, h.h, hs.h]⟩
instance [h : JTag g e e'] : JTagL g (jV e) (jV e') := ⟨fun x => by
  show D.tagL g (x.map e) = x.map e'
  rw [D.tagL_map, List.map_map]
  exact List.map_congr_left fun y _ => h.h y⟩
instance [hs : JTagL g es es'] : JTag g (jT es) (jT es') := ⟨fun x => by
  show D.tag g (.tup (es x)) = .tup (es' x)
  rw [tag_tup, hs.h]⟩
instance [k : JTagF g f f'] [hs : JTagL g es es'] : JTag g (jR f es) (jR f' es') := ⟨fun x => by
  show D.tag g (.lst f (es x)) = .lst f' (es' x)
  rw [tag_lst, k.h, hs.h]⟩
end
/-- nothing lent -/
class JNb {α : Type} (e : α → D) : Prop where h : ∀ x, noBor (e x) = true
class JNbL {α : Type} (e : α → List D) : Prop where h : ∀ x, (e x).all noBor = true
class JNbF (f : Fl) : Prop where h : (f != .bor) = true
instance : JNbF .own := ⟨rfl⟩
instance : JNbF .shr := ⟨rfl⟩
instance : JNbF .kon := ⟨rfl⟩
section
variable {f f' : Fl} {α β : Type} {e e' : α → D} {es es' : β → List D}
instance : JNb jI := ⟨fun _ => noBor_int⟩
instance : JNb jB := ⟨fun _ => noBor_bl⟩
instance : JNb jS := ⟨fun _ => noBor_str⟩
instance : JNb jU := ⟨fun _ => noBor_non⟩
instance [h : JNb e] : JNb (jO e) := ⟨fun x => by cases x with
  | none => exact noBor_non
  | some x => exact h.h x⟩
theorem nb_map [h : JNb e] (xs : List α) : (xs.map e).all noBor = true := by
  rw [List.all_eq_true]
  intro d hd
  obtain ⟨y, _, rfl⟩ := List.mem_map.mp hd
  exact h.h y
instance [k : JNbF f] [h : JNb e] : JNb (jL f e) := ⟨fun x => by
  show noBor (.lst f (x.map e)) = true
  rw [noBor_lst, k.h, nb_map]
  rfl⟩
instance : JNbL j0 := ⟨fun _ => rfl⟩
instance [h : JNb e] : JNbL (j1 e) := ⟨fun x => by
  show [e x].all noBor = true
  simp [h.h]⟩
instance [h : JNb e] [hs : JNbL es] : JNbL (jC e es) := ⟨fun x => by
  show (e x.1 :: es x.2).all noBor = true
  rw [List.all_cons, h.h, hs.h]
  rfl⟩
instance [h : JNb e] : JNbL (jV e) := ⟨fun x => nb_map x⟩
instance [hs : JNbL es] : JNb (jT es) := ⟨fun x => by
  show noBor (.tup (es x)) = true
  rw [noBor_tup, hs.h]⟩
instance [k : JNbF f] [hs : JNbL es] : JNb (jR f es) := ⟨fun x => by
  show noBor (.lst f (es x)) = true
  rw [noBor_lst, k.h, hs.h]
  rfl⟩
end
/-- scalars -/
class JSc {α : Type} (e : α → D) : Prop where h : ∀ x, closed (e x) = true
instance : JSc jI := ⟨fun _ => closed_int⟩
instance : JSc jB := ⟨fun _ => closed_bl⟩
instance : JSc jS := ⟨fun _ => closed_str⟩
instance : JSc jU := ⟨fun _ => closed_non⟩

section
variable {α β γ ν B μ σ : Type} {E : ν → B} {n : R ν} {ρ ρ' ρ2 : List Sl} {i j k : Nat}
theorem rf_ok {x : ν} : Rf (.ok (E x)) E (.ok x) := ⟨rfl⟩
theorem rf_eq {d : R B} {x : ν} (h : d = .ok (E x)) : Rf d E (.ok x) := ⟨h⟩
theorem rf_exn {x : Xn} : Rf (.exn x) E (.exn x : R ν) := ⟨rfl⟩
theorem rf_stuck {d : R B} : Rf d E .stuck := ⟨True.intro⟩
theorem rf_bind {d : R β} {e : α → β} {r : R α} {K : β → R B} {n : α → R ν} (h : Rf d e r) (q : ∀ z, Rf (K (e z)) E (n z)) : Rf (d.bind K) E (r.bind n) := by
  cases r with
  | ok x => rw [show d = .ok (e x) from (h).h]; exact q x
  | exn x => rw [show d = .exn x from h.h]; exact rf_exn
  | stuck => exact rf_stuck
theorem bind_ok {d : R β} : d.bind .ok = d := by cases d <;> rfl
theorem bind_bind {d : R α} {f : α → R β} {g : β → R γ} : (d.bind f).bind g = d.bind fun x => (f x).bind g := by cases d <;> rfl
theorem rf_id {d : R B} (h : Rf (d.bind .ok) E n) : Rf d E n := by rwa [bind_ok] at h
theorem rf_assoc {d : R α} {f : α → R β} {K : β → R B} (q : Rf (d.bind fun x => (f x).bind K) E n) : Rf ((d.bind f).bind K) E n := by rwa [bind_bind]
theorem rf_congr {d : R α} {f g : α → R B} (q : Rf (d.bind g) E n) (h : ∀ x, f x = g x) : Rf (d.bind f) E n := by rwa [show f = g from funext h]
theorem rf_noX {d : R B} (h : Rf d E n) : Rf (noX d) E (noX n) := by
  cases n with
  | ok x => rw [show d = .ok (E x) from h.h]; exact rf_eq rfl
  | exn x => exact rf_stuck
  | stuck => exact rf_stuck
/-- a value by a name -/
theorem c_let {Dd : α → R B} {n : α → R ν} (t : α) (q : ∀ x, Rf (Dd x) E (n x)) : Rf (Dd t) E ((R.ok t).bind n) := q t

/-! expressions -/
section
variable {K : D → R B} {p p1 p2 p3 : Pm} {f g : D → D → Option D} {e e' e2 : α → D} {x : α} {pa : PA'} {KL : List D → R B} {KB : Bool → R B} {c1 c2 : Pb}
theorem c_var {u : Bool} [h' : JTag toBor e e'] (h : ρ[i]? = some (.val u (e x))) (q : Rf (K (e' x)) E n) : Rf ((pVar i ρ).bind K) E n := by
  unfold pVar
  rw [h]
  show Rf (K ((e x).tag toBor)) E n
  rw [h'.h]
  exact q
theorem c_c {d : D} (h : d = e x) (q : Rf (K (e x)) E n) : Rf ((pC d ρ).bind K) E n := by subst h; exact q
theorem c_op2 (q : Rf ((p1 ρ).bind fun a => (p2 ρ).bind fun b => (R.of (f a b)).bind K) E n) : Rf ((pOp2 f p1 p2 ρ).bind K) E n := by
  unfold pOp2
  simpa only [bind_bind] using q
theorem c_op1 {f : D → Option D} (q : Rf ((p ρ).bind fun a => (R.of (f a)).bind K) E n) : Rf ((pOp1 f p ρ).bind K) E n := by
  unfold pOp1
  simpa only [bind_bind] using q
theorem c_opN {f : List D → Option D} (q : Rf ((pa ρ).bind fun a => (R.of (f a)).bind K) E n) : Rf ((pOpN f pa ρ).bind K) E n := by
  unfold pOpN
  simpa only [bind_bind] using q
theorem c_nil (q : Rf (KL []) E n) : Rf ((pNil ρ).bind KL) E n := q
theorem c_cons (q : Rf ((p ρ).bind fun d => (pa ρ).bind fun ds => KL (d :: ds)) E n) : Rf ((pCons p pa ρ).bind KL) E n := by
  unfold pCons
  simp only [bind_bind]
  exact q
theorem c_pure {o : Option D} (h : o = some (e x)) (q : Rf (K (e x)) E n) : Rf ((R.of o).bind K) E n := by subst h; exact q
theorem c_mon {o : Option D} {r : R α} {n : α → R ν} (h : Rf (R.of o) e r) (q : ∀ z, Rf (K (e z)) E (n z)) : Rf ((R.of o).bind K) E (r.bind n) := rf_bind h q
theorem c_dB {b : Bool} (q : Rf (KB b) E n) : Rf ((dB (jB b)).bind KB) E n := q
theorem c_andV (q : Rf ((p1 ρ).bind fun d => (dB d).bind fun b => (if b = true then p2 ρ else .ok (.bl false)).bind K) E n) : Rf ((pAndV p1 p2 ρ).bind K) E n := by
  unfold pAndV
  simpa only [bind_bind] using q
theorem c_orV (q : Rf ((p1 ρ).bind fun d => (dB d).bind fun b => (if b = true then .ok (.bl true) else p2 ρ).bind K) E n) : Rf ((pOrV p1 p2 ρ).bind K) E n := by
  unfold pOrV
  simpa only [bind_bind] using q
theorem c_andP {b b2 : Bool} {X : R D} (h : Rf X jB (.ok b2)) (q : Rf (K (jB (b && b2))) E n) : Rf ((if b = true then X else .ok (.bl false)).bind K) E n := by
  cases b
  · exact q
  · rw [if_pos rfl, show X = .ok (jB b2) from (h).h]; exact q
theorem c_orP {b b2 : Bool} {X : R D} (h : Rf X jB (.ok b2)) (q : Rf (K (jB (b || b2))) E n) : Rf ((if b = true then .ok (.bl true) else X).bind K) E n := by
  cases b
  · rw [if_neg (by decide), show X = .ok (jB b2) from (h).h]; exact q
  · exact q
theorem c_andM {b : Bool} {X : R D} {r : R Bool} {n : Bool → R ν} (h : b = true → Rf X jB r) (q : ∀ z, Rf (K (jB z)) E (n z)) : Rf ((if b = true then X else .ok (.bl false)).bind K) E ((if b = true then r else .ok false).bind n) := by
  refine rf_bind (e := jB) ?_ q
  split
  · rename_i c; exact h c
  · exact rf_eq rfl
theorem c_orM {b : Bool} {X : R D} {r : R Bool} {n : Bool → R ν} (h : b = false → Rf X jB r) (q : ∀ z, Rf (K (jB z)) E (n z)) : Rf ((if b = true then .ok (.bl true) else X).bind K) E ((if b = true then .ok true else r).bind n) := by
  refine rf_bind (e := jB) ?_ q
  split
  · exact rf_eq rfl
  · rename_i c; exact h (by simpa using c)
theorem c_pIf {c : Pb} (q : Rf ((c ρ).bind fun b => (if b = true then p1 ρ else p2 ρ).bind K) E n) : Rf ((pIf c p1 p2 ρ).bind K) E n := by
  unfold pIf
  simpa only [bind_bind] using q
theorem c_iteP {e : α → β} {K : β → R B} {b : Bool} {X Y : R β} {x y : α} (h1 : b = true → Rf X e (.ok x)) (h2 : b = false → Rf Y e (.ok y)) (q : Rf (K (e (if b = true then x else y))) E n) : Rf ((if b = true then X else Y).bind K) E n := by
  cases b
  · rw [if_neg (by decide), show Y = .ok (e y) from (h2 rfl).h]; exact q
  · rw [if_pos rfl, show X = .ok (e x) from (h1 rfl).h]; exact q
theorem c_iteM {e : α → β} {K : β → R B} {b : Bool} {X Y : R β} {r s : R α} {n : α → R ν} (h1 : b = true → Rf X e r) (h2 : b = false → Rf Y e s) (q : ∀ z, Rf (K (e z)) E (n z)) : Rf ((if b = true then X else Y).bind K) E ((if b = true then r else s).bind n) := by
  refine rf_bind (e := e) ?_ q
  split
  · rename_i c; exact h1 c
  · rename_i c; exact h2 (by simpa using c)
theorem c_ite {b : Bool} {X Y : R B} {n1 n2 : R ν} (h1 : b = true → Rf X E n1) (h2 : b = false → Rf Y E n2) : Rf (if b = true then X else Y) E (if b = true then n1 else n2) := by
  split
  · rename_i c; exact h1 c
  · rename_i c; exact h2 (by simpa using c)
theorem c_ift {X Y : R B} (q : Rf X E n) : Rf (if true = true then X else Y) E n := q
theorem c_chain (q : Rf ((p1 ρ).bind fun d1 => (p2 ρ).bind fun d2 => (R.of (f d1 d2)).bind fun z => (dB z).bind fun k => (if k = true then (p3 ρ).bind fun d3 => R.of (g d2 d3) else .ok (.bl false)).bind K) E n) : Rf ((pChain f g p1 p2 p3 ρ).bind K) E n := by
  unfold pChain
  simpa only [bind_bind] using q
theorem c_slice {lo hi : Option Pm} {f : D → Option Int → Option Int → Option D} (hf : f = dSlice) (q : Rf ((p ρ).bind fun d => (pI lo ρ).bind fun l => (pI hi ρ).bind fun h => (R.of (f d l h)).bind K) E n) : Rf ((pSlice p lo hi ρ).bind K) E n := by
  subst hf
  unfold pSlice
  simpa only [bind_bind] using q
theorem c_pIn {KO : Option Int → R B} (q : Rf (KO none) E n) : Rf ((pI none ρ).bind KO) E n := q
/-- a bound of a slice -/
def inI : D → R (Option Int)
  | .int i => .ok (some i)
  | _ => .stuck
theorem c_pIs {KO : Option Int → R B} (q : Rf ((p ρ).bind fun d => (inI d).bind KO) E n) : Rf ((pI (some p) ρ).bind KO) E n := by
  have e : pI (some p) ρ = (p ρ).bind inI := by
    unfold pI
    congr 1
  rw [e]
  simpa only [bind_bind] using q
theorem c_inI {i : Int} {KO : Option Int → R B} (q : Rf (KO (some i)) E n) : Rf ((inI (jI i)).bind KO) E n := q
/-! tests -/
theorem c_tst (q : Rf ((p ρ).bind fun d => (dB d).bind KB) E n) : Rf ((pTst p ρ).bind KB) E n := by
  unfold pTst
  simpa only [bind_bind] using q
theorem c_and (q : Rf ((c1 ρ).bind fun b => (if b = true then c2 ρ else .ok false).bind KB) E n) : Rf ((pAnd c1 c2 ρ).bind KB) E n := by
  unfold pAnd
  simpa only [bind_bind] using q
theorem c_or (q : Rf ((c1 ρ).bind fun b => (if b = true then .ok true else c2 ρ).bind KB) E n) : Rf ((pOr c1 c2 ρ).bind KB) E n := by
  unfold pOr
  simpa only [bind_bind] using q
theorem c_not (q : Rf ((c1 ρ).bind fun b => KB (!b)) E n) : Rf ((pNot c1 ρ).bind KB) E n := by
  unfold pNot
  rw [bind_bind]
  exact q
theorem c_bandP {b b2 : Bool} {X : R Bool} (h : Rf X id (.ok b2)) (q : Rf (KB (b && b2)) E n) : Rf ((if b = true then X else .ok false).bind KB) E n := by
  cases b
  · exact q
  · rw [if_pos rfl, show X = .ok b2 from (h).h]; exact q
theorem c_borP {b b2 : Bool} {X : R Bool} (h : Rf X id (.ok b2)) (q : Rf (KB (b || b2)) E n) : Rf ((if b = true then .ok true else X).bind KB) E n := by
  cases b
  · rw [if_neg (by decide), show X = .ok b2 from (h).h]; exact q
  · exact q
theorem c_bandM {b : Bool} {X : R Bool} {r : R Bool} {n : Bool → R ν} (h : b = true → Rf X id r) (q : ∀ z, Rf (KB z) E (n z)) : Rf ((if b = true then X else .ok false).bind KB) E ((if b = true then r else .ok false).bind n) := by
  refine rf_bind (e := id) ?_ q
  split
  · rename_i c; exact h c
  · exact rf_eq rfl
theorem c_borM {b : Bool} {X : R Bool} {r : R Bool} {n : Bool → R ν} (h : b = false → Rf X id r) (q : ∀ z, Rf (KB z) E (n z)) : Rf ((if b = true then .ok true else X).bind KB) E ((if b = true then .ok true else r).bind n) := by
  refine rf_bind (e := id) ?_ q
  split
  · exact rf_eq rfl
  · rename_i c; exact h (by simpa using c)
end

/-! calls -/
/-- the call itself, of given arguments -/
def callK (m : Nat) (G : Gf) (ds : List D) : R D := if ds.length = m then match G (D.tagL toShr ds) with
  | .ok (d, []) => .ok (if anyBor ds then d.tag toBorR else d)
  | .exn x => .exn x
  | _ => .stuck else .stuck
def callE (m : Nat) (G : Gf) (x : List D × List Sl) : R (D × List Sl) := if x.1.length = m then match G (D.tagL toShr x.1) with
  | .ok (d, []) => .ok (d, x.2)
  | .exn x => .exn x
  | _ => .stuck else .stuck
def callM (m : Nat) (G : Gf) (i : Nat) (x : List D × List Sl) : R (D × List Sl) := match x.2[i]? with
  | some (.val p d0) => if x.1.length + 1 = m then match G (d0 :: D.tagL toShr x.1) with
      | .ok (d, [m]) => .ok (d, x.2.set i (.val p m))
      | .exn x => .exn x
      | _ => .stuck else .stuck
  | _ => .stuck
/-- slot i holds something -/
def chkV (i : Nat) (ρ : List Sl) (r : R β) : R β := match ρ[i]? with
  | some (.val _ _) => r
  | _ => .stuck
theorem c_chk {u : Bool} {d : D} {r : R B} (h : ρ[i]? = some (.val u d)) (q : Rf r E n) : Rf (chkV i ρ r) E n := by
  unfold chkV
  rw [h]
  exact q
theorem tg_nil {g : Fl → Fl} : D.tagL g [] = [] := tagL_nil
theorem tg_cons {g : Fl → Fl} {e e' : α → D} {x : α} {ds ds' : List D} [h : JTag g e e'] (t : D.tagL g ds = ds') : D.tagL g (e x :: ds) = e' x :: ds' := by rw [tagL_cons, h.h, t]
section
variable {m : Nat} {G : Gf} {pa : PA'} {ea : EA'} {K : D → R B} {KE : D × List Sl → R B} {e e' : α → D} {ds as : List D} {r : R α} {nn : α → R ν}
theorem c_call (q : Rf ((pa ρ).bind fun ds => (callK m G ds).bind K) E n) : Rf ((pCall m G pa ρ).bind K) E n := by
  rw [show pCall m G pa ρ = (pa ρ).bind (callK m G) from rfl, bind_bind]
  exact q
theorem c_callS [h1 : JTag toBorR e e] (hG : Rf (G as) (fun z => (e z, [])) r) (hl : ds.length = m) (ht : D.tagL toShr ds = as) (q : ∀ z, Rf (K (e z)) E (nn z)) : Rf ((callK m G ds).bind K) E (r.bind nn) := by
  refine rf_bind (e := e) ?_ q
  unfold callK
  rw [if_pos hl, ht]
  cases r with
  | ok x =>
    rw [show G as = .ok (e x, []) from hG.h]
    refine rf_eq ?_
    dsimp only
    congr 1
    split
    · exact h1.h x
    · rfl
  | exn x => rw [show G as = .exn x from hG.h]; exact rf_exn
  | stuck => exact rf_stuck
theorem c_callB [h1 : JTag toBorR e e'] (hG : Rf (G as) (fun z => (e z, [])) r) (hl : ds.length = m) (ht : D.tagL toShr ds = as) (hb : anyBor ds = true) (q : ∀ z, Rf (K (e' z)) E (nn z)) : Rf ((callK m G ds).bind K) E (r.bind nn) := by
  refine rf_bind (e := e') ?_ q
  unfold callK
  rw [if_pos hl, ht]
  cases r with
  | ok x =>
    rw [show G as = .ok (e x, []) from hG.h]
    refine rf_eq ?_
    dsimp only
    rw [if_pos hb, h1.h]
  | exn x => rw [show G as = .exn x from hG.h]; exact rf_exn
  | stuck => exact rf_stuck
theorem c_callN (hG : Rf (G as) (fun z => (e z, [])) r) (hl : ds.length = m) (ht : D.tagL toShr ds = as) (hb : anyBor ds = false) (q : ∀ z, Rf (K (e z)) E (nn z)) : Rf ((callK m G ds).bind K) E (r.bind nn) := by
  refine rf_bind (e := e) ?_ q
  unfold callK
  rw [if_pos hl, ht]
  cases r with
  | ok x =>
    rw [show G as = .ok (e x, []) from hG.h]
    refine rf_eq ?_
    dsimp only
    rw [hb]
    rfl
  | exn x => rw [show G as = .exn x from hG.h]; exact rf_exn
  | stuck => exact rf_stuck
theorem c_ecalln (q : Rf ((ea ρ).bind fun x => (callE m G x).bind KE) E n) : Rf ((eCallN m G ea ρ).bind KE) E n := by
  rw [show eCallN m G ea ρ = (ea ρ).bind (callE m G) from rfl, bind_bind]
  exact q
theorem c_ecallS (hG : Rf (G as) (fun z => (e z, [])) r) (hl : ds.length = m) (ht : D.tagL toShr ds = as) (q : ∀ z, Rf (KE (e z, ρ)) E (nn z)) : Rf ((callE m G (ds, ρ)).bind KE) E (r.bind nn) := by
  refine rf_bind (e := fun z => (e z, ρ)) ?_ q
  unfold callE
  dsimp only
  rw [if_pos hl, ht]
  cases r with
  | ok x => rw [show G as = .ok (e x, []) from hG.h]; exact rf_eq rfl
  | exn x => rw [show G as = .exn x from hG.h]; exact rf_exn
  | stuck => exact rf_stuck
theorem c_ecallm (q : Rf (chkV i ρ ((ea ρ).bind fun x => (callM m G i x).bind KE)) E n) : Rf ((eCallM m G i ea ρ).bind KE) E n := by
  unfold eCallM
  unfold chkV at q
  cases h : ρ[i]? with
  | none => rw [h] at q; cases n <;> first | exact q | cases q
  | some s =>
    cases s with
    | emp => rw [h] at q; cases n <;> first | exact q | cases q
    | val u d =>
      have e : eCallM m G i ea ρ = (ea ρ).bind (callM m G i) := by
        unfold eCallM
        rw [h]
        rfl
      have e' := e
      unfold eCallM at e'
      rw [h] at q e'
      rw [e', bind_bind]
      exact q
theorem c_callM {em : μ → D} {d0 : D} {u : Bool} {r : R (α × μ)} {n : α × μ → R ν} (F : μ → List Sl) (hG : Rf (G (d0 :: as)) (fun z => (e z.1, [em z.2])) r) (h : ρ[i]? = some (.val u d0)) (hl : ds.length + 1 = m) (ht : D.tagL toShr ds = as) (h2 : ∀ y, ρ.set i (.val u (em y)) = F y) (q : ∀ z y, Rf (KE (e z, F y)) E (n (z, y))) : Rf ((callM m G i (ds, ρ)).bind KE) E (r.bind n) := by
  refine rf_bind (e := fun z : α × μ => (e z.1, F z.2)) ?_ fun z => q z.1 z.2
  unfold callM
  dsimp only
  rw [h]
  dsimp only
  rw [if_pos hl, ht]
  cases r with
  | ok x =>
    rw [show G (d0 :: as) = .ok (e x.1, [em x.2]) from hG.h]
    refine rf_eq ?_
    dsimp only
    rw [h2]
  | exn x => rw [show G (d0 :: as) = .exn x from hG.h]; exact rf_exn
  | stuck => exact rf_stuck
end
/-- calls that change any arguments -/
def callG (mu : List Bool) (bk : List (Option Nat)) (G : Gf) (x : List D × List Sl) : R (D × List Sl) := if x.1.length = mu.length ∧ bk.length = mu.length then match G (mix mu x.1) with
  | .ok (d, ms) => match putB (pick mu bk) ms x.2 with
    | some ρ' => .ok (d, ρ')
    | none => .stuck
  | .exn x => .exn x
  | .stuck => .stuck else .stuck
theorem mix_nil : mix [] [] = [] := rfl
theorem mix_t {mu : List Bool} {d : D} {ds ds' : List D} (t : mix mu ds = ds') : mix (true :: mu) (d :: ds) = d :: ds' := by show d :: mix mu ds = _; rw [t]
theorem mix_f {mu : List Bool} {e e' : α → D} {x : α} {ds ds' : List D} [h : JTag toShr e e'] (t : mix mu ds = ds') : mix (false :: mu) (e x :: ds) = e' x :: ds' := by show (e x).tag toShr :: mix mu ds = _; rw [t, h.h]
section
variable {G : Gf} {ea : EA'} {KE : D × List Sl → R B} {e : α → D} {ds as : List D} {mu : List Bool} {bk : List (Option Nat)}
theorem c_ecallg (q : Rf ((ea ρ).bind fun x => (callG mu bk G x).bind KE) E n) : Rf ((eCallG mu bk G ea ρ).bind KE) E n := by
  rw [show eCallG mu bk G ea ρ = (ea ρ).bind (callG mu bk G) from rfl, bind_bind]
  exact q
theorem c_take {u : Bool} {K : D × List Sl → R B} {x : α} (h : ρ[i]? = some (.val u (e x))) (h2 : ρ.set i (.val u .hole) = ρ2) (q : Rf (K (e x, ρ2)) E n) : Rf ((eTake i ρ).bind K) E n := by
  unfold eTake
  rw [h]
  subst h2
  exact q
theorem c_callG {ems : μ → List D} {r : R (α × μ)} {n : α × μ → R ν} (F : μ → List Sl) (hG : Rf (G as) (fun z => (e z.1, ems z.2)) r) (hl : ds.length = mu.length ∧ bk.length = mu.length) (ht : mix mu ds = as) (h2 : ∀ y, putB (pick mu bk) (ems y) ρ = some (F y)) (q : ∀ z y, Rf (KE (e z, F y)) E (n (z, y))) : Rf ((callG mu bk G (ds, ρ)).bind KE) E (r.bind n) := by
  refine rf_bind (e := fun z : α × μ => (e z.1, F z.2)) ?_ fun z => q z.1 z.2
  unfold callG
  dsimp only
  rw [if_pos hl, ht]
  cases r with
  | ok x =>
    rw [show G as = .ok (e x.1, ems x.2) from hG.h]
    refine rf_eq ?_
    dsimp only
    rw [h2]
  | exn x => rw [show G as = .exn x from hG.h]; exact rf_exn
  | stuck => exact rf_stuck
end
/-! refusals -/
def refR {α : Type} (r : R α) (z2 : Str) : R Bool := match r with
  | .ok _ => .ok false
  | .exn x => if x.cls = "BadValue" ∧ x.fld = "where" then match x.arg with
      | .str z => .ok (z == z2)
      | _ => .stuck
    else .stuck
  | .stuck => .stuck
theorem c_ref {p : Pm} {z2 : Str} {K : D → R B} {e : α → D} {r : R α} {n : Bool → R ν} (h : Rf (p ρ) e r) (q : ∀ b, Rf (K (jB b)) E (n b)) : Rf ((pRef p z2 ρ).bind K) E ((refR r z2).bind n) := by
  refine rf_bind (e := jB) ?_ q
  unfold pRef refR
  cases r with
  | ok x => rw [show p ρ = .ok (e x) from h.h]; exact rf_eq rfl
  | stuck => exact rf_stuck
  | exn x =>
    rw [show p ρ = .exn x from h.h]
    obtain ⟨c, f, a⟩ := x
    dsimp only
    split
    · cases a <;> first | exact rf_eq rfl | exact rf_stuck
    · exact rf_stuck
def refK (p : Pm) (ρ : List Sl) (d : D) : R D := match d with
  | .str z => pRef p z ρ
  | _ => .stuck
theorem c_refE {p p2 : Pm} {K : D → R B} (q : Rf ((p2 ρ).bind fun d => (refK p ρ d).bind K) E n) : Rf ((pRefE p p2 ρ).bind K) E n := by
  rw [show pRefE p p2 ρ = (p2 ρ).bind (refK p ρ) from rfl, bind_bind]
  exact q
theorem c_refK {p : Pm} {z2 : Str} {K : D → R B} {e : α → D} {r : R α} {n : Bool → R ν} (h : Rf (p ρ) e r) (q : ∀ b, Rf (K (jB b)) E (n b)) : Rf ((refK p ρ (jS z2)).bind K) E ((refR r z2).bind n) := c_ref h q
end
end DL

namespace DL
open PySem PySem.Spec L2
section
variable {α β γ ν B μ σ : Type} {E : ν → B} {n : R ν} {ρ ρ' ρ2 : List Sl} {i j k : Nat}
variable {K : D × List Sl → R B} {p p1 p2 p3 : Pm} {m m1 m2 : Em} {f g : D → D → Option D} {e e' e2 : α → D} {x : α} {ea : EA'} {KL : List D × List Sl → R B} {KB : Bool × List Sl → R B} {b1 b2 : Eb} {c1 c2 : Pb}
/-! steps with effects -/
def nbK (ρ : List Sl) (K : D × List Sl → R B) (d : D) : R B := if noBor d = true then K (d, ρ) else .stuck
theorem c_eP (q : Rf ((p ρ).bind (nbK ρ K)) E n) : Rf ((eP p ρ).bind K) E n := by
  rw [show eP p ρ = (p ρ).bind fun d => if noBor d = true then .ok (d, ρ) else .stuck from rfl, bind_bind]
  refine rf_congr q fun d => ?_
  unfold nbK
  split <;> rfl
theorem c_nb [h : JNb e] (q : Rf (K (e x, ρ)) E n) : Rf (nbK ρ K (e x)) E n := by
  unfold nbK
  rw [if_pos (h.h x)]
  exact q
theorem c_move (h : ρ[i]? = some (.val false (e x))) (h2 : ρ.set i .emp = ρ2) (q : Rf (K (e x, ρ2)) E n) : Rf ((eMove i ρ).bind K) E n := by
  unfold eMove
  rw [h]
  subst h2
  exact q
def shrK (K : D × List Sl → R B) (x : D × List Sl) : R B := K (x.1.tag toShr, x.2)
theorem c_shr (q : Rf ((m ρ).bind (shrK K)) E n) : Rf ((eShr m ρ).bind K) E n := by
  unfold eShr
  rw [bind_bind]
  exact q
theorem c_shrK [h : JTag toShr e e'] (q : Rf (K (e' x, ρ)) E n) : Rf (shrK K (e x, ρ)) E n := by
  unfold shrK
  rw [show ((e x, ρ).1.tag toShr) = e' x from h.h x]
  exact q
theorem c_eop2 (q : Rf ((m1 ρ).bind fun x => (m2 x.2).bind fun y => (R.of (f x.1 y.1)).bind fun d => K (d, y.2)) E n) : Rf ((eOp2 f m1 m2 ρ).bind K) E n := by
  unfold eOp2
  simp only [bind_bind]
  exact q
theorem c_eop1 {f : D → Option D} (q : Rf ((m ρ).bind fun x => (R.of (f x.1)).bind fun d => K (d, x.2)) E n) : Rf ((eOp1 f m ρ).bind K) E n := by
  unfold eOp1
  simp only [bind_bind]
  exact q
theorem c_eopN {f : List D → Option D} (q : Rf ((ea ρ).bind fun x => (R.of (f x.1)).bind fun d => K (d, x.2)) E n) : Rf ((eOpN f ea ρ).bind K) E n := by
  unfold eOpN
  simp only [bind_bind]
  exact q
theorem c_enil (q : Rf (KL ([], ρ)) E n) : Rf ((eNil ρ).bind KL) E n := q
theorem c_econs (q : Rf ((m ρ).bind fun x => (ea x.2).bind fun y => KL (x.1 :: y.1, y.2)) E n) : Rf ((eCons m ea ρ).bind KL) E n := by
  unfold eCons
  simp only [bind_bind]
  exact q
theorem c_eandV (q : Rf ((m1 ρ).bind fun x => (dB x.1).bind fun b => (if b = true then m2 x.2 else .ok (.bl false, x.2)).bind K) E n) : Rf ((eAndV m1 m2 ρ).bind K) E n := by
  unfold eAndV
  simp only [bind_bind]
  exact q
theorem c_eorV (q : Rf ((m1 ρ).bind fun x => (dB x.1).bind fun b => (if b = true then .ok (.bl true, x.2) else m2 x.2).bind K) E n) : Rf ((eOrV m1 m2 ρ).bind K) E n := by
  unfold eOrV
  simp only [bind_bind]
  exact q
theorem c_eIf (q : Rf ((b1 ρ).bind fun x => (if x.1 = true then m1 x.2 else m2 x.2).bind K) E n) : Rf ((eIf b1 m1 m2 ρ).bind K) E n := by
  unfold eIf
  rw [bind_bind]
  exact q
theorem c_eB (q : Rf ((c1 ρ).bind fun b => KB (b, ρ)) E n) : Rf ((eB c1 ρ).bind KB) E n := by
  unfold eB
  rw [bind_bind]
  exact q
theorem c_eT (q : Rf (KB (true, ρ)) E n) : Rf ((eT ρ).bind KB) E n := q
theorem c_etst (q : Rf ((m ρ).bind fun x => (dB x.1).bind fun b => KB (b, x.2)) E n) : Rf ((eTst m ρ).bind KB) E n := by
  unfold eTst
  simp only [bind_bind]
  exact q
theorem c_eand (q : Rf ((b1 ρ).bind fun x => (if x.1 = true then b2 x.2 else .ok (false, x.2)).bind KB) E n) : Rf ((eAnd b1 b2 ρ).bind KB) E n := by
  unfold eAnd
  rw [bind_bind]
  exact q
theorem c_eor (q : Rf ((b1 ρ).bind fun x => (if x.1 = true then .ok (true, x.2) else b2 x.2).bind KB) E n) : Rf ((eOr b1 b2 ρ).bind KB) E n := by
  unfold eOr
  rw [bind_bind]
  exact q
theorem c_enot (q : Rf ((b1 ρ).bind fun x => KB (!x.1, x.2)) E n) : Rf ((eNot b1 ρ).bind KB) E n := by
  unfold eNot
  rw [bind_bind]
  exact q
/-- both ways of an if with effects end in frames of one kind: s tells which -/
theorem c_iteS {β' : Type} {K : β' × List Sl → R B} {e : α → β'} {F : σ → List Sl} {b : Bool} {X Y : R (β' × List Sl)} {r s : R (α × σ)} {n : α × σ → R ν} (h1 : b = true → Rf X (fun z => (e z.1, F z.2)) r) (h2 : b = false → Rf Y (fun z => (e z.1, F z.2)) s) (q : ∀ z y, Rf (K (e z, F y)) E (n (z, y))) : Rf ((if b = true then X else Y).bind K) E ((if b = true then r else s).bind n) := by
  refine rf_bind (e := fun z : α × σ => (e z.1, F z.2)) ?_ fun z => q z.1 z.2
  split
  · rename_i c; exact h1 c
  · rename_i c; exact h2 (by simpa using c)
/-! methods that change an object -/
def mutK (i : Nat) (f : D → List D → Option (D × D)) (x : List D × List Sl) : R (D × List Sl) := match x.2[i]? with
  | some (.val p d0) => match f d0 x.1 with
    | some (d', r) => .ok (r, x.2.set i (.val p d'))
    | none => .stuck
  | _ => .stuck
def chkO (i : Nat) (ρ : List Sl) (r : R β) : R β := match ρ[i]? with
  | some (.val _ (.lst .own _)) => r
  | _ => .stuck
theorem c_chkO {u : Bool} {ds : List D} {r : R B} (h : ρ[i]? = some (.val u (.lst .own ds))) (q : Rf r E n) : Rf (chkO i ρ r) E n := by
  unfold chkO
  rw [h]
  exact q
theorem rf_of_stuck {X : R B} (q : Rf (R.stuck : R B) E n) : Rf X E n := by
  cases n with
  | ok x => cases q.h
  | exn x => cases q.h
  | stuck => exact rf_stuck
theorem c_mut {f : D → List D → Option (D × D)} (q : Rf (chkO i ρ ((ea ρ).bind fun x => (mutK i f x).bind K)) E n) : Rf ((eMut i f ea ρ).bind K) E n := by
  unfold chkO at q
  have e : ∀ u ds, ρ[i]? = some (.val u (.lst .own ds)) → eMut i f ea ρ = (ea ρ).bind (mutK i f) := fun u ds h => by
    unfold eMut
    rw [h]
    rfl
  cases h : ρ[i]? with
  | none => rw [h] at q; exact rf_of_stuck q
  | some s =>
    cases s with
    | emp => rw [h] at q; exact rf_of_stuck q
    | val u d =>
      cases d <;> first | (rw [h] at q; exact rf_of_stuck q) | skip
      rename_i ff ds
      cases ff <;> first | (rw [h] at q; exact rf_of_stuck q) | skip
      rw [e u ds h, bind_bind]
      rw [h] at q
      exact q
theorem c_mutK {f : D → List D → Option (D × D)} {d0 : D} {u : Bool} {as : List D} {ed er : α → D} {r : R α} {n : α → R ν} (F : α → List Sl) (h : ρ[i]? = some (.val u d0)) (hm : Rf (R.of (f d0 as)) (fun z => (ed z, er z)) r) (h2 : ∀ z, ρ.set i (.val u (ed z)) = F z) (q : ∀ z, Rf (K (er z, F z)) E (n z)) : Rf ((mutK i f (as, ρ)).bind K) E (r.bind n) := by
  refine rf_bind (e := fun z => (er z, F z)) ?_ q
  unfold mutK
  dsimp only
  rw [h]
  dsimp only
  cases r with
  | ok x =>
    have := show R.of (f d0 as) = .ok (ed x, er x) from hm.h
    cases e : f d0 as with
    | none => rw [e] at this; cases this
    | some z =>
      rw [e] at this
      cases this
      refine rf_eq ?_
      show R.ok _ = R.ok _
      rw [h2]
  | exn x =>
    have := show R.of (f d0 as) = .exn x from hm.h
    cases e : f d0 as with
    | none => rw [e] at this; cases this
    | some z => rw [e] at this; cases this
  | stuck => exact rf_stuck
/-- .. that give an item, too -/
theorem c_mutP {f : D → List D → Option (D × D)} {d0 : D} {u : Bool} {as : List D} {e1 : α → D} {e2 : β → D} {r : R (α × β)} {n : α × β → R ν} (F : α → List Sl) (h : ρ[i]? = some (.val u d0)) (hm : Rf (R.of (f d0 as)) (fun z => (e1 z.1, e2 z.2)) r) (h2 : ∀ z, ρ.set i (.val u (e1 z)) = F z) (q : ∀ y z, Rf (K (e2 z, F y)) E (n (y, z))) : Rf ((mutK i f (as, ρ)).bind K) E (r.bind n) :=
  c_mutK (ed := fun z : α × β => e1 z.1) (er := fun z => e2 z.2) (fun z => F z.1) h hm (fun z => h2 z.1) fun z => q z.1 z.2
/-! statements -/
section
variable {KS : Fw → R B} {s t : Sm}
abbrev seqK (t : Sm) (KS : Fw → R B) : Fw → R B
  | .nx ρ => (t ρ).bind KS
  | .bk ρ => KS (.bk ρ)
  | .ct ρ => KS (.ct ρ)
  | .rt d ρ => KS (.rt d ρ)
theorem s_seq (q : Rf ((s ρ).bind (seqK t KS)) E n) : Rf ((sSeq s t ρ).bind KS) E n := by
  unfold sSeq
  rw [bind_bind]
  refine rf_congr q fun f => ?_
  cases f <;> rfl
theorem s_nil (q : Rf (KS (.nx ρ)) E n) : Rf ((sNil ρ).bind KS) E n := q
theorem s_brk (q : Rf (KS (.bk ρ)) E n) : Rf ((sBrk ρ).bind KS) E n := q
theorem s_cnt (q : Rf (KS (.ct ρ)) E n) : Rf ((sCnt ρ).bind KS) E n := q
theorem s_retN (q : Rf (KS (.rt .non ρ)) E n) : Rf ((sRetN ρ).bind KS) E n := q
theorem s_ret (q : Rf ((m ρ).bind fun x => KS (.rt x.1 x.2)) E n) : Rf ((sRet m ρ).bind KS) E n := by
  unfold sRet
  rw [bind_bind]
  exact q
theorem s_expr (q : Rf ((m ρ).bind fun x => KS (.nx x.2)) E n) : Rf ((sExpr m ρ).bind KS) E n := by
  unfold sExpr
  rw [bind_bind]
  exact q
theorem s_if (q : Rf ((b1 ρ).bind fun x => if x.1 = true then (s x.2).bind KS else (t x.2).bind KS) E n) : Rf ((sIf b1 s t ρ).bind KS) E n := by
  unfold sIf
  rw [bind_bind]
  refine rf_congr q fun x => ?_
  split <;> rfl
/-- may the slot be stored -/
def stoF (ρ : List Sl) (i : Nat) : Bool := match ρ[i]? with
  | some .emp => true
  | some (.val false _) => true
  | _ => false
def stoK (i : Nat) (KS : Fw → R B) (x : D × List Sl) : R B := if stoF x.2 i = true then KS (.nx (x.2.set i (.val false x.1))) else .stuck
theorem s_set (q : Rf ((m ρ).bind (stoK i KS)) E n) : Rf ((sSet i m ρ).bind KS) E n := by
  unfold sSet
  rw [bind_bind]
  refine rf_congr q fun x => ?_
  unfold stoK stoF
  cases x.2[i]? with
  | none => rfl
  | some s => cases s with
    | emp => rfl
    | val u d => cases u <;> rfl
theorem c_sto {d : D} (ρ2 : List Sl) (h1 : stoF ρ i = true) (h2 : ρ.set i (.val false d) = ρ2) (q : Rf (KS (.nx ρ2)) E n) : Rf (stoK i KS (d, ρ)) E n := by
  unfold stoK
  rw [if_pos h1, h2]
  exact q
/-- the value gets a name -/
theorem c_stoL {t : α} {n : α → R ν} (F : α → List Sl) (h1 : stoF ρ i = true) (h2 : ∀ x, ρ.set i (.val false (e x)) = F x) (q : ∀ x, Rf (KS (.nx (F x))) E (n x)) : Rf (stoK i KS (e t, ρ)) E ((R.ok t).bind n) := by
  unfold stoK
  rw [if_pos h1, h2]
  exact q t
def shrAtK (i : Nat) (KS : Fw → R B) : Fw → R B
  | .nx ρ => KS (.nx (frz i ρ))
  | .bk ρ => KS (.bk ρ)
  | .ct ρ => KS (.ct ρ)
  | .rt d ρ => KS (.rt d ρ)
theorem s_shrAt (q : Rf ((s ρ).bind (shrAtK i KS)) E n) : Rf ((sShrAt i s ρ).bind KS) E n := by
  unfold sShrAt
  rw [bind_bind]
  refine rf_congr q fun f => ?_
  cases f <;> rfl
theorem frz_at {u : Bool} [h : JTag toShr e e'] (h1 : ρ[i]? = some (.val u (e x))) (h2 : ρ.set i (.val u (e' x)) = ρ2) : frz i ρ = ρ2 := by
  unfold frz
  rw [h1]
  dsimp only
  rw [h.h, h2]
theorem c_shrAtK (h : frz i ρ = ρ2) (q : Rf (KS (.nx ρ2)) E n) : Rf (shrAtK i KS (.nx ρ)) E n := by
  unfold shrAtK
  dsimp only
  rw [h]
  exact q
theorem frzs_nil : frzs [] ρ = ρ := rfl
theorem frzs_cons {is : List Nat} (h1 : frz i ρ = ρ') (h2 : frzs is ρ' = ρ2) : frzs (i :: is) ρ = ρ2 := by
  unfold frzs
  rw [h1, h2]
theorem s_frz {is : List Nat} (h : frzs is ρ = ρ2) (q : Rf ((s ρ2).bind KS) E n) : Rf ((sFrz is s ρ).bind KS) E n := by
  unfold sFrz
  rw [h]
  exact q
def wipK (is : List Nat) (KS : Fw → R B) (f : Fw) : R B := (wipF is f).bind KS
theorem s_wipA {is : List Nat} (q : Rf ((s ρ).bind (wipK is KS)) E n) : Rf ((sWipA is s ρ).bind KS) E n := by
  unfold sWipA
  rw [bind_bind]
  exact q
theorem c_wipN {is : List Nat} (ρ2 : List Sl) (h1 : freeAt ρ is = true) (h2 : wipeD ρ is = ρ2) (q : Rf (KS (.nx ρ2)) E n) : Rf (wipK is KS (.nx ρ)) E n := by
  unfold wipK wipF
  dsimp only
  rw [if_pos h1, h2]
  exact q
theorem c_wipC {is : List Nat} (ρ2 : List Sl) (h1 : freeAt ρ is = true) (h2 : wipeD ρ is = ρ2) (q : Rf (KS (.ct ρ2)) E n) : Rf (wipK is KS (.ct ρ)) E n := by
  unfold wipK wipF
  dsimp only
  rw [if_pos h1, h2]
  exact q
theorem c_wipB {is : List Nat} (ρ2 : List Sl) (h1 : freeAt ρ is = true) (h2 : wipeD ρ is = ρ2) (q : Rf (KS (.bk ρ2)) E n) : Rf (wipK is KS (.bk ρ)) E n := by
  unfold wipK wipF
  dsimp only
  rw [if_pos h1, h2]
  exact q
theorem c_wipR {is : List Nat} {d : D} (q : Rf (KS (.rt d ρ)) E n) : Rf (wipK is KS (.rt d ρ)) E n := q
theorem s_asg {t : Tg} (q : Rf ((m ρ).bind fun x => (R.of (t x.1 x.2)).bind fun ρ1 => KS (.nx ρ1)) E n) : Rf ((sAsg t m ρ).bind KS) E n := by
  unfold sAsg
  simp only [bind_bind]
  exact q
/-! stores into objects -/
theorem c_of {o : Option β} {y : β} {K : β → R B} (h : o = some y) (q : Rf (K y) E n) : Rf ((R.of o).bind K) E n := by subst h; exact q
def subK (i : Nat) (f : D → D → D → Option D) (v : D) (y : D × List Sl) : R Fw := match y.2[i]? with
  | some (.val p d0) => match f d0 y.1 v with
    | some d' => .ok (.nx (y.2.set i (.val p d')))
    | none => .stuck
  | _ => .stuck
theorem s_sub {f : D → D → D → Option D} (q : Rf ((m ρ).bind fun x => chkV i x.2 ((m2 x.2).bind fun y => (subK i f x.1 y).bind KS)) E n) : Rf ((sSub i f m2 m ρ).bind KS) E n := by
  unfold sSub
  rw [bind_bind]
  refine rf_congr q fun x => ?_
  unfold chkV
  cases h : x.2[i]? with
  | none => rfl
  | some s => cases s with
    | emp => rfl
    | val u d =>
      dsimp only
      rw [bind_bind]
      rfl
theorem c_subK {f : D → D → D → Option D} {u : Bool} {d0 v k : D} {r : R α} {n : α → R ν} (F : α → List Sl) (h : ρ[i]? = some (.val u d0)) (hm : Rf (R.of (f d0 k v)) e r) (h2 : ∀ z, ρ.set i (.val u (e z)) = F z) (q : ∀ z, Rf (KS (.nx (F z))) E (n z)) : Rf ((subK i f v (k, ρ)).bind KS) E (r.bind n) := by
  refine rf_bind (e := fun z => .nx (F z)) ?_ q
  unfold subK
  dsimp only
  rw [h]
  dsimp only
  cases r with
  | ok x =>
    have := show R.of (f d0 k v) = .ok (e x) from hm.h
    cases e' : f d0 k v with
    | none => rw [e'] at this; cases this
    | some z =>
      rw [e'] at this
      cases this
      refine rf_eq ?_
      show R.ok _ = R.ok _
      rw [h2]
  | exn x =>
    have := show R.of (f d0 k v) = .exn x from hm.h
    cases e' : f d0 k v with
    | none => rw [e'] at this; cases this
    | some z => rw [e'] at this; cases this
  | stuck => exact rf_stuck
theorem c_subR {f : D → D → D → Option D} {u : Bool} {d0 v k : D} (h : ρ[i]? = some (.val u d0)) (hm : f d0 k v = some (e x)) (h2 : ρ.set i (.val u (e x)) = ρ2) (q : Rf (KS (.nx ρ2)) E n) : Rf ((subK i f v (k, ρ)).bind KS) E n := by
  unfold subK
  dsimp only
  rw [h]
  dsimp only
  rw [hm]
  dsimp only
  rw [h2]
  exact q
/-- x op= e, of a scalar -/
def augK (i : Nat) (f : D → D → Option D) (d0 : D) (x : D × List Sl) : R (D × List Sl) := (R.of (f d0 x.1)).bind fun d => .ok (d, x.2)
theorem s_aug {u : Bool} {f : D → D → Option D} [hs : JSc e] (h : ρ[i]? = some (.val u (e x))) (q : Rf ((m ρ).bind fun y => (R.of (f (e x) y.1)).bind fun d => stoK i KS (d, y.2)) E n) : Rf ((sAug i f m ρ).bind KS) E n := by
  unfold sAug
  rw [h]
  dsimp only
  rw [if_pos (hs.h x), bind_bind]
  refine rf_congr q fun y => ?_
  cases f (e x) y.1 with
  | none => rfl
  | some d =>
    show (sSet i (fun ρ => .ok (d, ρ)) y.2).bind KS = stoK i KS (d, y.2)
    unfold stoK sSet stoF
    rw [bind_bind]
    dsimp only [R.bind]
    cases y.2[i]? with
    | none => rfl
    | some s => cases s with
      | emp => rfl
      | val u d => cases u <;> rfl
/-- xs[i] op= e -/
def augSubK (i : Nat) (g f : D → D → Option D) (h : D → D → D → Option D) (m : Em) (k : D × List Sl) : R Fw := match k.2[i]? with
    | some (.val _ d0) => if closed k.1 then match g d0 k.1 with
      | some d1 => if closed d1 then (m k.2).bind fun x => match f d1 x.1 with
          | some d2 => match x.2[i]? with
            | some (.val p d0) => match h d0 k.1 d2 with
              | some d' => .ok (.nx (x.2.set i (.val p d')))
              | none => .stuck
            | _ => .stuck
          | none => .stuck
        else .stuck
      | none => .stuck else .stuck
    | _ => .stuck
theorem s_augsub {g f : D → D → Option D} {h : D → D → D → Option D} (q : Rf (chkV i ρ ((m2 ρ).bind fun k => (augSubK i g f h m k).bind KS)) E n) : Rf ((sAugSub i g f h m2 m ρ).bind KS) E n := by
  unfold sAugSub
  unfold chkV at q
  cases h : ρ[i]? with
  | none => rw [h] at q; exact q
  | some s => cases s with
    | emp => rw [h] at q; exact q
    | val u d =>
      rw [h] at q
      dsimp only at q ⊢
      rw [bind_bind]
      exact q
theorem c_augSubK {ek : γ → D} {kk : γ} {g f : D → D → Option D} {h' : D → D → D → Option D} {u : Bool} {d0 : D} [hk : JSc ek] [hs : JSc e2] {r1 : R α} {n : α → R ν} (h : ρ[i]? = some (.val u d0)) (hg : Rf (R.of (g d0 (ek kk))) e2 r1)
    (q : ∀ z, Rf ((m ρ).bind fun x => (R.of (f (e2 z) x.1)).bind fun d2 => (subK i h' d2 (ek kk, x.2)).bind KS) E (n z)) : Rf ((augSubK i g f h' m (ek kk, ρ)).bind KS) E (r1.bind n) := by
  unfold augSubK
  dsimp only
  rw [h]
  dsimp only
  rw [if_pos (hk.h kk)]
  cases r1 with
  | ok z =>
    have := show R.of (g d0 (ek kk)) = .ok (e2 z) from hg.h
    cases e' : g d0 (ek kk) with
    | none => rw [e'] at this; cases this
    | some d1 =>
      rw [e'] at this
      cases this
      dsimp only
      rw [if_pos (hs.h z), bind_bind]
      refine rf_congr (q z) fun x => ?_
      cases f (e2 z) x.1 with
      | none => rfl
      | some d2 => rfl
  | exn z =>
    have := show R.of (g d0 (ek kk)) = .exn z from hg.h
    cases e' : g d0 (ek kk) with
    | none => rw [e'] at this; cases this
    | some d1 => rw [e'] at this; cases this
  | stuck => exact rf_stuck
/-! errors -/
def raiseK (c fld : Str) (d : D) : R Fw := match scal0 d with
  | some _ => .exn ⟨c, fld, d⟩
  | none => .stuck
theorem s_raise {c fld : Str} (q : Rf ((p ρ).bind fun d => (raiseK c fld d).bind KS) E n) : Rf ((sRaise c fld p ρ).bind KS) E n := by
  rw [show sRaise c fld p ρ = (p ρ).bind (raiseK c fld) from rfl, bind_bind]
  exact q
theorem c_raiseK {c fld : Str} {d : D} (h : (scal0 d).isSome = true) : Rf ((raiseK c fld d).bind KS) E (.exn ⟨c, fld, d⟩) := by
  unfold raiseK
  cases e : scal0 d with
  | none => rw [e] at h; cases h
  | some v => exact rf_exn
/-! a place where ways meet -/
def J {κ : Type} (k : κ → R ν) (f : (κ → R ν) → R ν) : R ν := f k
theorem s_join {κ : Type} {F : κ → List Sl} {k : κ → R ν} {f : (κ → R ν) → R ν} {b : Bool} (hk : ∀ s, Rf (KS (.nx (F s))) E (k s)) (q : ∀ j, (∀ s, Rf (KS (.nx (F s))) E (j s)) → Rf (if b = true then (s ρ).bind KS else (t ρ').bind KS) E (f j)) : Rf (if b = true then (s ρ).bind KS else (t ρ').bind KS) E (J k f) := q k hk
theorem rf_have {κ : Type} {F : κ → List Sl} {n : κ → R ν} {m : R ν} {b : Bool} (hk : ∀ s, Rf (KS (.nx (F s))) E (n s)) (q : (∀ s, Rf (KS (.nx (F s))) E (n s)) → Rf (if b = true then (s ρ).bind KS else (t ρ').bind KS) E m) : Rf (if b = true then (s ρ).bind KS else (t ρ').bind KS) E m := q hk
theorem s_joinW {κ : Type} {is : List Nat} {F : κ → List Sl} {k : κ → R ν} {f : (κ → R ν) → R ν} {b : Bool} (hk : ∀ s, Rf (KS (.nx (F s))) E (k s)) (q : ∀ j, (∀ s, Rf (KS (.nx (F s))) E (j s)) → Rf (if b = true then (s ρ).bind (wipK is KS) else (t ρ').bind (wipK is KS)) E (f j)) : Rf (if b = true then (s ρ).bind (wipK is KS) else (t ρ').bind (wipK is KS)) E (J k f) := q k hk
theorem rf_haveW {κ : Type} {is : List Nat} {F : κ → List Sl} {n : κ → R ν} {m : R ν} {b : Bool} (hk : ∀ s, Rf (KS (.nx (F s))) E (n s)) (q : (∀ s, Rf (KS (.nx (F s))) E (n s)) → Rf (if b = true then (s ρ).bind (wipK is KS) else (t ρ').bind (wipK is KS)) E m) : Rf (if b = true then (s ρ).bind (wipK is KS) else (t ρ').bind (wipK is KS)) E m := q hk
theorem s_wipe {is : List Nat} (ρ2 : List Sl) (h1 : freeAt ρ is = true) (h2 : wipeD ρ is = ρ2) (q : Rf ((s ρ2).bind KS) E n) : Rf ((sWipe is s ρ).bind KS) E n := by
  unfold sWipe
  rw [if_pos h1, h2]
  exact q
/-- both ways do nothing but store: the value by an if -/
theorem s_iteV {κ : Type} {b : Bool} {X Y : R B} {x y : κ} {n : κ → R ν} (h1 : b = true → Rf X E (n x)) (h2 : b = false → Rf Y E (n y)) : Rf (if b = true then X else Y) E ((R.ok (if b = true then x else y)).bind n) := by
  cases b
  · rw [if_neg (by decide), if_neg (by decide)]; exact h2 rfl
  · rw [if_pos rfl, if_pos rfl]; exact h1 rfl
end
end
end DL

namespace DL
open PySem PySem.Spec L2
/-! ### loops -/
/-- a walk over a list; body: item, state, what follows the turn, what follows a break -/
def forC {α σ ν : Type} (body : α → σ → (σ → R ν) → (σ → R ν) → R ν) (after : σ → R ν) : List α → σ → R ν
  | [], s => after s
  | x :: xs, s => body x s (forC body after xs) after
def whileC {σ ν : Type} (step : σ → (σ → R ν) → R ν) : Nat → σ → R ν
  | 0, _ => .stuck
  | n + 1, s => step s (whileC step n)
section
variable {α β γ ν B μ σ : Type} {E : ν → B} {n : R ν} {ρ ρ' ρ2 : List Sl} {i j k : Nat} {KS : Fw → R B} {s : Sm} {t : Tg} {e e' : α → D} {im : Im} {m m2 : Em}
abbrev turnK (NX : List Sl → R B) (KS : Fw → R B) : Fw → R B
  | .nx ρ => NX ρ
  | .ct ρ => NX ρ
  | .bk ρ => KS (.nx ρ)
  | .rt d ρ => KS (.rt d ρ)
theorem s_for (q : Rf ((im ρ).bind fun x => (forL t s x.1 x.2).bind KS) E n) : Rf ((sFor im t s ρ).bind KS) E n := by
  unfold sFor
  rw [bind_bind]
  exact q
theorem s_forL (F : σ → List Sl) {body : α → σ → (σ → R ν) → (σ → R ν) → R ν} {after : σ → R ν}
    (ha : ∀ s', Rf (KS (.nx (F s'))) E (after s'))
    (hb : ∀ x s' (nx bk : σ → R ν) (NX : List Sl → R B), (∀ s', Rf (NX (F s')) E (nx s')) → (∀ s', Rf (KS (.nx (F s'))) E (bk s')) → Rf ((R.of (t (e x) (F s'))).bind fun ρ1 => (s ρ1).bind (turnK NX KS)) E (body x s' nx bk)) :
    ∀ (xs : List α) (s0 : σ), Rf ((forL t s (xs.map e) (F s0)).bind KS) E (forC body after xs s0)
  | [], s0 => ha s0
  | x :: xs, s0 => by
    have q := hb x s0 (forC body after xs) after (fun ρ => (forL t s (xs.map e) ρ).bind KS) (fun s' => s_forL F ha hb xs s') ha
    rw [List.map_cons]
    unfold forL
    rw [bind_bind]
    refine rf_congr q fun ρ1 => ?_
    rw [bind_bind]
    congr 1
    funext f
    cases f <;> rfl
theorem c_forL (F : σ → List Sl) {body : α → σ → (σ → R ν) → (σ → R ν) → R ν} {after : σ → R ν} {xs : List α} {s0 : σ}
    (ha : ∀ s', Rf (KS (.nx (F s'))) E (after s'))
    (hb : ∀ x s' (nx bk : σ → R ν) (NX : List Sl → R B), (∀ s', Rf (NX (F s')) E (nx s')) → (∀ s', Rf (KS (.nx (F s'))) E (bk s')) → Rf ((R.of (t (e x) (F s'))).bind fun ρ1 => (s ρ1).bind (turnK NX KS)) E (body x s' nx bk)) :
    Rf ((forL t s (xs.map e) (F s0)).bind KS) E (forC body after xs s0) := s_forL F ha hb xs s0
theorem s_whileL {c : Eb} (F : σ → List Sl) {step : σ → (σ → R ν) → R ν}
    (hs : ∀ s' (nx : σ → R ν) (NX : List Sl → R B), (∀ s', Rf (NX (F s')) E (nx s')) → Rf ((c (F s')).bind fun x => if x.1 = true then (s x.2).bind (turnK NX KS) else KS (.nx x.2)) E (step s' nx)) :
    ∀ (k : Nat) (s0 : σ), Rf ((whileL c s k (F s0)).bind KS) E (whileC step k s0)
  | 0, s0 => rf_stuck
  | k + 1, s0 => by
    have q := hs s0 (whileC step k) (fun ρ => (whileL c s k ρ).bind KS) (fun s' => s_whileL F hs k s')
    unfold whileL
    rw [bind_bind]
    refine rf_congr q fun x => ?_
    split
    · rw [bind_bind]
      congr 1
      funext f
      cases f <;> rfl
    · rfl
theorem c_tg {d : D} (ρ2 : List Sl) {K : List Sl → R B} (h : t d ρ = some ρ2) (q : Rf (K ρ2) E n) : Rf ((R.of (t d ρ)).bind K) E n := by rw [h]; exact q
/-! what is walked -/
variable {KL : List D × List Sl → R B}
def lstI (x : D × List Sl) : R (List D × List Sl) := match x.1 with
  | .lst _ xs => .ok (D.tagL toShr xs, x.2)
  | .tup xs => .ok (D.tagL toShr xs, x.2)
  | _ => .stuck
theorem c_iLst (q : Rf ((m ρ).bind fun x => (lstI x).bind KL) E n) : Rf ((iLst m ρ).bind KL) E n := by
  rw [show iLst m ρ = (m ρ).bind lstI from rfl, bind_bind]
  exact q
theorem tagL_mapE [h : JTag toShr e e'] (xs : List α) : D.tagL toShr (xs.map e) = xs.map e' := by
  rw [D.tagL_map, List.map_map]
  exact List.map_congr_left fun y _ => h.h y
theorem c_lstI [h : JTag toShr e e'] {f : Fl} {xs : List α} (q : Rf (KL (xs.map e', ρ)) E n) : Rf ((lstI (jL f e xs, ρ)).bind KL) E n := by
  show Rf (KL (D.tagL toShr (xs.map e), ρ)) E n
  rw [tagL_mapE]
  exact q
theorem c_tupI [h : JTag toShr e e'] {xs : List α} (q : Rf (KL (xs.map e', ρ)) E n) : Rf ((lstI (jT (jV e) xs, ρ)).bind KL) E n := by
  show Rf (KL (D.tagL toShr (xs.map e), ρ)) E n
  rw [tagL_mapE]
  exact q
/-- range(a), range(a, b), reversed(range(a)) -/
def rngI (lo : Int) (n : Nat) : List Int := (List.range n).map fun i => lo + (i : Nat)
def rngR (j : Int) : R (List Int) := if -4611686018427387904 ≤ j ∧ j < 4611686018427387904 then .ok (rngI 0 j.toNat) else .stuck
def rng2R (i j : Int) : R (List Int) := if -4611686018427387904 ≤ i ∧ i < 4611686018427387904 ∧ -4611686018427387904 ≤ j ∧ j < 4611686018427387904 then .ok (rngI i (j - i).toNat) else .stuck
def revR (j : Int) : R (List Int) := if -4611686018427387904 ≤ j ∧ j < 4611686018427387904 then .ok ((List.range j.toNat).map fun i => (j.toNat - 1 : Int) + (i : Nat) * (-1)) else .stuck
def i1 (x : D × List Sl) : R (List D × List Sl) := match x.1 with
  | .int j => if -4611686018427387904 ≤ j ∧ j < 4611686018427387904 then .ok (rng 0 j.toNat, x.2) else .stuck
  | _ => .stuck
def i2 (x y : D × List Sl) : R (List D × List Sl) := match x.1, y.1 with
  | .int i, .int j => if -4611686018427387904 ≤ i ∧ i < 4611686018427387904 ∧ -4611686018427387904 ≤ j ∧ j < 4611686018427387904 then .ok (rng i (j - i).toNat, y.2) else .stuck
  | _, _ => .stuck
def i3 (x : D × List Sl) : R (List D × List Sl) := match x.1 with
  | .int j => if -4611686018427387904 ≤ j ∧ j < 4611686018427387904 then .ok (rngC (j.toNat - 1) (-1) j.toNat, x.2) else .stuck
  | _ => .stuck
theorem c_iRng1 (q : Rf ((m ρ).bind fun x => (i1 x).bind KL) E n) : Rf ((iRng1 m ρ).bind KL) E n := by
  rw [show iRng1 m ρ = (m ρ).bind i1 from rfl, bind_bind]
  exact q
theorem c_iRng2 (q : Rf ((m ρ).bind fun x => (m2 x.2).bind fun y => (i2 x y).bind KL) E n) : Rf ((iRng2 m m2 ρ).bind KL) E n := by
  rw [show iRng2 m m2 ρ = (m ρ).bind fun x => (m2 x.2).bind fun y => i2 x y from rfl]
  simp only [bind_bind]
  exact q
theorem c_iRevR (q : Rf ((m ρ).bind fun x => (i3 x).bind KL) E n) : Rf ((iRevR m ρ).bind KL) E n := by
  rw [show iRevR m ρ = (m ρ).bind i3 from rfl, bind_bind]
  exact q
theorem rng_map {lo : Int} {n : Nat} : rng lo n = (rngI lo n).map jI := by
  unfold rng rngI
  rw [List.map_map]
  rfl
theorem c_i1 {a : Int} {n : List Int → R ν} (q : ∀ xs, Rf (KL (xs.map jI, ρ)) E (n xs)) : Rf ((i1 (jI a, ρ)).bind KL) E ((rngR a).bind n) := by
  refine rf_bind (e := fun xs : List Int => (xs.map jI, ρ)) ?_ q
  unfold i1 rngR jI
  dsimp only
  split
  · rw [rng_map]; exact rf_eq rfl
  · exact rf_stuck
theorem c_i2 {a b : Int} {ρ0 : List Sl} {n : List Int → R ν} (q : ∀ xs, Rf (KL (xs.map jI, ρ)) E (n xs)) : Rf ((i2 (jI a, ρ0) (jI b, ρ)).bind KL) E ((rng2R a b).bind n) := by
  refine rf_bind (e := fun xs : List Int => (xs.map jI, ρ)) ?_ q
  unfold i2 rng2R jI
  dsimp only
  split
  · rw [rng_map]; exact rf_eq rfl
  · exact rf_stuck
theorem c_i3 {a : Int} {n : List Int → R ν} (q : ∀ xs, Rf (KL (xs.map jI, ρ)) E (n xs)) : Rf ((i3 (jI a, ρ)).bind KL) E ((revR a).bind n) := by
  refine rf_bind (e := fun xs : List Int => (xs.map jI, ρ)) ?_ q
  unfold i3 revR jI
  dsimp only
  split
  · refine rf_eq ?_
    unfold rngC
    rw [List.map_map]
    rfl
  · exact rf_stuck
/-- enumerate -/
def enumI {α : Type} : Nat → List α → List (Int × α)
  | _, [] => []
  | n, x :: xs => ((n : Nat), x) :: enumI (n + 1) xs
def enuI (x : D × List Sl) : R (List D × List Sl) := match x.1 with
  | .lst _ xs => .ok (enumD 0 (D.tagL toShr xs), x.2)
  | _ => .stuck
theorem c_iEnu (q : Rf ((m ρ).bind fun x => (enuI x).bind KL) E n) : Rf ((iEnu m ρ).bind KL) E n := by
  rw [show iEnu m ρ = (m ρ).bind enuI from rfl, bind_bind]
  exact q
theorem enumD_map (n : Nat) : ∀ xs : List α, enumD n (xs.map e) = (enumI n xs).map (jT (jC jI (j1 e)))
  | [] => rfl
  | x :: xs => by
    rw [List.map_cons]
    unfold enumD enumI
    rw [List.map_cons, enumD_map (n + 1) xs]
    rfl
theorem c_enuI [h : JTag toShr e e'] {f : Fl} {xs : List α} (q : Rf (KL ((enumI 0 xs).map (jT (jC jI (j1 e'))), ρ)) E n) : Rf ((enuI (jL f e xs, ρ)).bind KL) E n := by
  show Rf (KL (enumD 0 (D.tagL toShr (xs.map e)), ρ)) E n
  rw [tagL_mapE, enumD_map]
  exact q
end

/-! ### comprehensions -/
def lcK {B : Type} (vs : List Nat) (t : Tg) (c : Eb) (e : Em) (K : D × List Sl → R B) (x : List D × List Sl) : R B := if empAt x.2 vs = true then (lcL t c e vs x.1 [] x.2).bind fun y => K (.lst .own y.1, y.2) else .stuck
/-- stateless; the errors inside are none of ours -/
def lcM {α β : Type} (c : α → R Bool) (g : α → R β) : List α → List β → R (List β)
  | [], acc => .ok acc
  | x :: xs, acc => (noX (c x)).bind fun b => if b = true then (noX (g x)).bind fun y => if acc.length < 16777216 then lcM c g xs (acc ++ [y]) else .stuck else lcM c g xs acc
def lcS {α β σ : Type} (c : α → σ → R (Bool × σ)) (g : α → σ → R (β × σ)) : List α → List β → σ → R (List β × σ)
  | [], acc, s => .ok (acc, s)
  | x :: xs, acc, s => (noX (c x s)).bind fun b => if b.1 = true then (noX (g x b.2)).bind fun y => if acc.length < 16777216 then lcS c g xs (acc ++ [y.1]) y.2 else .stuck else lcS c g xs acc b.2
def mapP {α β : Type} (g : α → β) (xs : List α) : R (List β) := if xs.length ≤ 16777216 then .ok (xs.map g) else .stuck
def filtP {α β : Type} (c : α → Bool) (g : α → β) (xs : List α) : R (List β) := if xs.length ≤ 16777216 then .ok ((xs.filter c).map g) else .stuck
section
variable {α β γ ν B μ σ : Type} {E : ν → B} {n : R ν} {ρ ρ' ρ2 : List Sl} {i j k : Nat} {t : Tg} {ex : α → D} {ey : β → D} {im : Im} {em : Em} {ec : Eb} {K : D × List Sl → R B} {vs : List Nat} {xs : List α}
theorem c_lc (q : Rf ((im ρ).bind (lcK vs t ec em K)) E n) : Rf ((eLc im vs t ec em ρ).bind K) E n := by
  unfold eLc
  rw [bind_bind]
  refine rf_congr q fun x => ?_
  unfold lcK
  split
  · rw [bind_bind]
    rfl
  · rfl
theorem lcS_rf {c : α → σ → R (Bool × σ)} {g : α → σ → R (β × σ)} (F : σ → List Sl) (ρ1 ρ2 : α → σ → List Sl) (ht : ∀ x s, t (ex x) (F s) = some (ρ1 x s)) (hc : ∀ x s, Rf (ec (ρ1 x s)) (fun b => (b.1, ρ1 x b.2)) (c x s))
    (he : ∀ x s, Rf (em (ρ1 x s)) (fun y => (ey y.1, ρ2 x y.2)) (g x s)) (hw1 : ∀ x s, wipeD (ρ1 x s) vs = F s) (hw : ∀ x s, wipeD (ρ2 x s) vs = F s) :
    ∀ (xs : List α) (acc : List β) (s : σ), Rf (lcL t ec em vs (xs.map ex) (acc.map ey) (F s)) (fun z => (z.1.map ey, F z.2)) (lcS c g xs acc s)
  | [], acc, s => rf_eq rfl
  | x :: xs, acc, s => by
    rw [List.map_cons]
    unfold lcL lcS
    rw [ht, R.of]
    show Rf ((noX (ec (ρ1 x s))).bind _) _ _
    refine rf_bind (rf_noX (hc x s)) fun b => ?_
    dsimp only
    split
    · refine rf_bind (rf_noX (he x b.2)) fun y => ?_
      rw [List.length_map]
      split
      · have := lcS_rf F ρ1 ρ2 ht hc he hw1 hw xs (acc ++ [y.1]) y.2
        rw [List.map_append] at this
        dsimp only
        rw [hw]
        exact this
      · exact rf_stuck
    · rw [hw1]
      exact lcS_rf F ρ1 ρ2 ht hc he hw1 hw xs acc b.2
theorem lcM_rf {c : α → R Bool} {g : α → R β} (ρ1 : α → List Sl) (ht : ∀ x, t (ex x) ρ = some (ρ1 x)) (hc : ∀ x, Rf (ec (ρ1 x)) (fun b => (b, ρ1 x)) (c x))
    (he : ∀ x, Rf (em (ρ1 x)) (fun y => (ey y, ρ1 x)) (g x)) (hw : ∀ x, wipeD (ρ1 x) vs = ρ) :
    ∀ (xs : List α) (acc : List β), Rf (lcL t ec em vs (xs.map ex) (acc.map ey) ρ) (fun z => (z.map ey, ρ)) (lcM c g xs acc)
  | [], acc => rf_eq rfl
  | x :: xs, acc => by
    rw [List.map_cons]
    unfold lcL lcM
    rw [ht, R.of]
    show Rf ((noX (ec (ρ1 x))).bind _) _ _
    refine rf_bind (rf_noX (hc x)) fun b => ?_
    dsimp only
    split
    · refine rf_bind (rf_noX (he x)) fun y => ?_
      rw [List.length_map]
      split
      · have := lcM_rf ρ1 ht hc he hw xs (acc ++ [y])
        rw [List.map_append] at this
        dsimp only
        rw [hw]
        exact this
      · exact rf_stuck
    · rw [hw]
      exact lcM_rf ρ1 ht hc he hw xs acc
theorem c_lcS {c : α → σ → R (Bool × σ)} {g : α → σ → R (β × σ)} {s0 : σ} {n : List β × σ → R ν} (F : σ → List Sl) (ρ1 ρ2 : α → σ → List Sl) (h0 : empAt (F s0) vs = true) (ht : ∀ x s, t (ex x) (F s) = some (ρ1 x s)) (hc : ∀ x s, Rf (ec (ρ1 x s)) (fun b => (b.1, ρ1 x b.2)) (c x s))
    (he : ∀ x s, Rf (em (ρ1 x s)) (fun y => (ey y.1, ρ2 x y.2)) (g x s)) (hw1 : ∀ x s, wipeD (ρ1 x s) vs = F s) (hw : ∀ x s, wipeD (ρ2 x s) vs = F s) (q : ∀ ys s, Rf (K (jL .own ey ys, F s)) E (n (ys, s))) : Rf (lcK vs t ec em K (xs.map ex, F s0)) E ((lcS c g xs [] s0).bind n) := by
  unfold lcK
  dsimp only
  rw [if_pos h0]
  exact rf_bind (lcS_rf F ρ1 ρ2 ht hc he hw1 hw xs [] s0) fun z => q z.1 z.2
theorem c_lcM {c : α → R Bool} {g : α → R β} {n : List β → R ν} (ρ1 : α → List Sl) (h0 : empAt ρ vs = true) (ht : ∀ x, t (ex x) ρ = some (ρ1 x)) (hc : ∀ x, Rf (ec (ρ1 x)) (fun b => (b, ρ1 x)) (c x))
    (he : ∀ x, Rf (em (ρ1 x)) (fun y => (ey y, ρ1 x)) (g x)) (hw : ∀ x, wipeD (ρ1 x) vs = ρ) (q : ∀ ys, Rf (K (jL .own ey ys, ρ)) E (n ys)) : Rf (lcK vs t ec em K (xs.map ex, ρ)) E ((lcM c g xs []).bind n) := by
  unfold lcK
  dsimp only
  rw [if_pos h0]
  exact rf_bind (lcM_rf ρ1 ht hc he hw xs []) fun z => q z
theorem lcM_pure {c : α → Bool} {g : α → β} : ∀ (xs : List α) (acc : List β), acc.length + xs.length ≤ 16777216 → lcM (fun x => .ok (c x)) (fun x => .ok (g x)) xs acc = .ok (acc ++ (xs.filter c).map g)
  | [], acc, _ => by simp [lcM]
  | x :: xs, acc, h => by
    rw [List.length_cons] at h
    have ih := fun acc h => lcM_pure (c := c) (g := g) xs acc h
    simp only [lcM, noX, R.bind]
    cases e : c x
    · rw [if_neg (by decide), ih _ (by omega), List.filter_cons_of_neg (by simp [e])]
    · rw [if_pos rfl, if_pos (by omega), ih _ (by simp; omega), List.filter_cons_of_pos (by simp [e])]
      simp
theorem c_filtP {c : α → Bool} {g : α → β} {n : List β → R ν} (ρ1 : α → List Sl) (h0 : empAt ρ vs = true) (ht : ∀ x, t (ex x) ρ = some (ρ1 x)) (hc : ∀ x, Rf (ec (ρ1 x)) (fun b => (b, ρ1 x)) (.ok (c x)))
    (he : ∀ x, Rf (em (ρ1 x)) (fun y => (ey y, ρ1 x)) (.ok (g x))) (hw : ∀ x, wipeD (ρ1 x) vs = ρ) (q : ∀ ys, Rf (K (jL .own ey ys, ρ)) E (n ys)) : Rf (lcK vs t ec em K (xs.map ex, ρ)) E ((filtP c g xs).bind n) := by
  unfold filtP
  split
  · rename_i h
    have := c_lcM (xs := xs) (n := n) ρ1 h0 ht hc he hw q
    rw [lcM_pure _ _ (by simpa using h)] at this
    exact this
  · exact rf_stuck
theorem c_mapP {g : α → β} {n : List β → R ν} (ρ1 : α → List Sl) (h0 : empAt ρ vs = true) (ht : ∀ x, t (ex x) ρ = some (ρ1 x)) (hc : ec = eT)
    (he : ∀ x, Rf (em (ρ1 x)) (fun y => (ey y, ρ1 x)) (.ok (g x))) (hw : ∀ x, wipeD (ρ1 x) vs = ρ) (q : ∀ ys, Rf (K (jL .own ey ys, ρ)) E (n ys)) : Rf (lcK vs t ec em K (xs.map ex, ρ)) E ((mapP g xs).bind n) := by
  subst hc
  unfold mapP
  split
  · rename_i h
    have := c_lcM (ec := eT) (xs := xs) (c := fun _ => .ok true) (n := n) ρ1 h0 ht (fun x => rf_eq rfl) he hw q
    rw [lcM_pure (c := fun _ => true) _ _ (by simpa using h)] at this
    rw [List.filter_eq_self.mpr (fun _ _ => rfl), List.nil_append] at this
    exact this
  · exact rf_stuck
end
/-! ### a def -/
def bdK (mu : List Bool) : Fw → R (D × List D)
  | .rt d ρ => .ok (d, picks mu ρ)
  | .nx ρ => .ok (.non, picks mu ρ)
  | .bk _ => .stuck
  | .ct _ => .stuck
section
variable {ν : Type} {E : ν → D × List D} {n : R ν} {mu : List Bool} {N : Nat} {b : Sm} {ds : List D} {ρ : List Sl}
theorem d_body (ρ : List Sl) (hl : ds.length = mu.length) (h0 : sl0 mu ds ++ List.replicate N .emp = ρ) (q : Rf ((b ρ).bind (bdK mu)) E n) : Rf (bodyG mu N b ds) E n := by
  unfold bodyG
  rw [if_pos hl, h0]
  cases e : b ρ with
  | stuck => rw [e] at q; exact q
  | exn x => rw [e] at q; exact q
  | ok f =>
    rw [e] at q
    cases f <;> exact q
theorem r_rt {d : D} {x : ν} (h : (d, picks mu ρ) = E x) : Rf (bdK mu (.rt d ρ)) E (.ok x) := by
  refine rf_eq ?_
  show R.ok _ = R.ok _
  rw [h]
theorem r_nx {x : ν} (h : (D.non, picks mu ρ) = E x) : Rf (bdK mu (.nx ρ)) E (.ok x) := by
  refine rf_eq ?_
  show R.ok _ = R.ok _
  rw [h]
end
end DL

namespace DL
open PySem PySem.Spec L2
/-! ### operations, natively -/
def mulR (a b : Int) : R Int := if cMul a b = true then .ok (a * b) else .stuck
def divR (a b : Int) : R Int := if cDivN a b = true then .ok (a / b) else .stuck
def modR (a b : Int) : R Int := if cMod a b = true then .ok (a % b) else .stuck
def powR (a b : Int) : R Int := if cPow a b = true then .ok (a ^ b.toNat) else .stuck
def idx {α : Type} (xs : List α) (i : Int) : R α := R.of (atI xs i)
def setR {α : Type} (xs : List α) (i : Int) (x : α) : R (List α) := R.of ((ixN xs.length i).map fun j => xs.set j x)
def appR {α : Type} (xs : List α) (x : α) : R (List α) := if xs.length < 16777216 then .ok (xs ++ [x]) else .stuck
def catR {α : Type} (xs ys : List α) : R (List α) := if xs.length + ys.length ≤ 16777216 then .ok (xs ++ ys) else .stuck
def repR {α : Type} (xs : List α) (k : Int) : R (List α) := if -9223372036854775808 ≤ k ∧ k < 9223372036854775808 ∧ xs.length * k.toNat ≤ 16777216 then .ok (List.replicate k.toNat xs).flatten else .stuck
def cut {α : Type} (xs : List α) (lo hi : Option Int) : List α := (xs.drop (HT.sIx xs.length 0 lo)).take (HT.sIx xs.length xs.length hi - HT.sIx xs.length 0 lo)
def iabs (i : Int) : Int := if i < 0 then -i else i
def imax2 (i j : Int) : Int := if j > i then j else i
def imin2 (i j : Int) : Int := if j < i then j else i
def b2i (b : Bool) : Int := if b then 1 else 0
def maxR (xs : List Int) : R Int := if xs = [] then .stuck else .ok (imax xs)
def minR (xs : List Int) : R Int := if xs = [] then .stuck else .ok (imin xs)
section
variable {α β γ ν B μ σ : Type} {e e' e2 : α → D} {es : β → List D} {f g : Fl} {xs ys : List α} {x y : α} {a b : Int}
theorem o_dI2 {C : Int → Int → Bool} {h : Int → Int → D} {eo : γ → D} {v : Int → Int → γ} (hv : ∀ i j, h i j = eo (v i j)) : Rf (R.of (dI2 C h (jI a) (jI b))) eo (if C a b = true then .ok (v a b) else .stuck) := by
  show Rf (R.of (if C a b = true then some (h a b) else none)) _ _
  split
  · refine rf_eq ?_; rw [hv]; rfl
  · exact rf_stuck
theorem o_iMul : Rf (R.of (iMul (jI a) (jI b))) jI (mulR a b) := o_dI2 fun _ _ => rfl
theorem o_iDiv : Rf (R.of (iDiv (jI a) (jI b))) jI (divR a b) := o_dI2 fun _ _ => rfl
theorem o_iMod : Rf (R.of (iMod (jI a) (jI b))) jI (modR a b) := o_dI2 fun _ _ => rfl
theorem o_iPow : Rf (R.of (iPow (jI a) (jI b))) jI (powR a b) := o_dI2 (v := fun a b => a ^ b.toNat) fun _ _ => rfl
theorem o_dMul : Rf (R.of (dMul (jI a) (jI b))) jI (mulR a b) := by
  unfold mulR
  split
  · rename_i c
    have : iMul (jI a) (jI b) = some (.int (a * b)) := by show (if cMul a b = true then _ else _) = _; rw [if_pos c]
    refine rf_eq ?_
    unfold dMul dOr
    rw [this]
    rfl
  · exact rf_stuck
theorem o_mulc (h0 : -18446744073709551616 < b ∧ b < 18446744073709551616) : dMul (jI a) (jI b) = some (jI (a * b)) := by
  have h2 : cMul a b = true := by
    unfold cMul
    rw [decide_eq_true_eq]
    exact .inr h0
  have := @o_dMul a b
  unfold mulR at this
  rw [if_pos h2] at this
  cases e : dMul (jI a) (jI b) with
  | none => rw [e] at this; cases this.h
  | some d => rw [e] at this; cases this.h; rfl
theorem o_mulc' (h0 : -18446744073709551616 < a ∧ a < 18446744073709551616) : dMul (jI a) (jI b) = some (jI (a * b)) := by
  have h2 : cMul a b = true := by
    unfold cMul
    rw [decide_eq_true_eq]
    exact .inl h0
  have := @o_dMul a b
  unfold mulR at this
  rw [if_pos h2] at this
  cases e : dMul (jI a) (jI b) with
  | none => rw [e] at this; cases this.h
  | some d => rw [e] at this; cases this.h; rfl
theorem o_divc (h : cDivN 0 b = true) : iDiv (jI a) (jI b) = some (jI (a / b)) := by
  show (if cDivN a b = true then _ else _) = _
  rw [if_pos (show cDivN a b = true from h)]
  rfl
theorem o_modc (h : cMod 0 b = true) : iMod (jI a) (jI b) = some (jI (a % b)) := by
  show (if cMod a b = true then _ else _) = _
  rw [if_pos (show cMod a b = true from h)]
  rfl
theorem o_powc {c : Int} (h : cPow a b = true) (h2 : a ^ b.toNat = c) : iPow (jI a) (jI b) = some (jI c) := by
  show (if cPow a b = true then _ else _) = _
  rw [if_pos h]
  subst h2
  rfl
/-! lists -/
theorem atI_map {e : α → β} (xs : List α) (i : Int) : atI (xs.map e) i = (atI xs i).map e := by
  unfold atI
  rw [List.length_map]
  cases ixN xs.length i with
  | none => rfl
  | some j => simp
theorem o_ix {i : Int} : Rf (R.of (dIx (jL f e xs) (jI i))) e (idx xs i) := by
  show Rf (R.of (atI (xs.map e) i)) _ _
  unfold idx
  rw [atI_map]
  cases atI xs i with
  | none => exact rf_stuck
  | some x => exact rf_eq rfl
theorem o_ixL {i : Int} : Rf (R.of (dIxL (jL f e xs) (jI i))) e (idx xs i) := o_ix (f := f)
theorem o_ixV {i : Int} : Rf (R.of (dIx (jT (jV e) xs) (jI i))) e (idx xs i) := o_ix (f := .own)
theorem o_set {i : Int} : Rf (R.of (gSetL (jL .own e xs) (jI i) (e x))) (jL .own e) (setR xs i x) := by
  show Rf (R.of ((ixN (xs.map e).length i).map fun j => D.lst .own ((xs.map e).set j (e x)))) _ _
  unfold setR
  rw [List.length_map]
  cases ixN xs.length i with
  | none => exact rf_stuck
  | some j =>
    refine rf_eq ?_
    show R.ok (D.lst .own _) = R.ok (D.lst .own _)
    rw [List.map_set]
theorem o_app : Rf (R.of (gApp (jL .own e xs) [e x])) (fun z => (jL .own e z, jU ())) (appR xs x) := by
  show Rf (R.of (if (xs.map e).length < 16777216 then some (D.lst .own (xs.map e ++ [e x]), D.non) else none)) _ _
  unfold appR
  rw [List.length_map]
  split
  · refine rf_eq ?_
    show R.ok (D.lst .own _, D.non) = R.ok (D.lst .own _, D.non)
    rw [List.map_append]
    rfl
  · exact rf_stuck
theorem o_len : fLen [jL f e xs] = some (jI xs.length) := by
  show some (D.int ((xs.map e).length : Nat)) = _
  rw [List.length_map]
  rfl
theorem o_lenV : fLen [jT (jV e) xs] = some (jI xs.length) := by
  show some (D.int ((xs.map e).length : Nat)) = _
  rw [List.length_map]
  rfl
theorem o_abs : fAbs [jI a] = some (jI (iabs a)) := rfl
theorem o_max2 : fMax2 [jI a, jI b] = some (jI (imax2 a b)) := rfl
theorem o_min2 : fMin2 [jI a, jI b] = some (jI (imin2 a b)) := rfl
theorem o_int : fInt [jI a] = some (jI a) := rfl
theorem o_intB {b : Bool} : fInt [jB b] = some (jI (b2i b)) := rfl
theorem o_sum {xs : List Int} : fSum [jL f jI xs] = some (jI xs.sum) := by
  show (dints (xs.map .int)).map _ = _
  rw [ints_map]
  rfl
theorem o_all {xs : List Bool} : fAll [jL f jB xs] = some (jB (xs.all id)) := by
  show (dbools (xs.map .bl)).map _ = _
  rw [bools_map]
  rfl
theorem o_any {xs : List Bool} : fAny [jL f jB xs] = some (jB (xs.any id)) := by
  show (dbools (xs.map .bl)).map _ = _
  rw [bools_map]
  rfl
theorem o_max {xs : List Int} : Rf (R.of (fMax [jL f jI xs])) jI (maxR xs) := by
  show Rf (R.of ((dints (xs.map .int)).bind _)) _ _
  rw [ints_map]
  unfold maxR
  by_cases c : xs = []
  · subst c; exact rf_stuck
  · show Rf (R.of (if xs = [] then none else some (D.int (imax xs)))) _ _
    rw [if_neg c, if_neg c]
    exact rf_eq rfl
theorem o_min {xs : List Int} : Rf (R.of (fMin [jL f jI xs])) jI (minR xs) := by
  show Rf (R.of ((dints (xs.map .int)).bind _)) _ _
  rw [ints_map]
  unfold minR
  by_cases c : xs = []
  · subst c; exact rf_stuck
  · show Rf (R.of (if xs = [] then none else some (D.int (imin xs)))) _ _
    rw [if_neg c, if_neg c]
    exact rf_eq rfl
theorem o_sorted {xs : List Int} : fSorted [jL f jI xs] = some (jL .own jI (isort xs)) := by
  show (dints (xs.map .int)).map _ = _
  rw [ints_map]
  rfl
theorem o_list : fList [jL f e xs] = some (jL .own e xs) := rfl
theorem o_listV : fList [jT (jV e) xs] = some (jL .own e xs) := rfl
theorem o_tuple : fTuple [jL f e xs] = some (jT (jV e) xs) := rfl
theorem o_slice {lo hi : Option Int} : dSlice (jL f e xs) lo hi = some (jL .own e (cut xs lo hi)) := by
  show some (D.lst .own (cutD (xs.map e) lo hi)) = some (D.lst .own _)
  unfold cutD cut
  rw [List.length_map, List.map_take, List.map_drop]
class JNk (f : Fl) : Prop where h : f ≠ .kon
instance : JNk .own := ⟨by decide⟩
instance : JNk .shr := ⟨by decide⟩
instance : JNk .bor := ⟨by decide⟩
theorem o_cat [hf : JNk f] [hg : JNk g] : Rf (R.of (dAdd (jL f e xs) (jL g e ys))) (jL .own e) (catR xs ys) := by
  unfold catR
  split
  · rename_i h
    have := dAdd_lst (f := f) (g := g) (xs := xs.map e) (ys := ys.map e) hf.h hg.h (by simpa using h)
    show Rf (R.of (dAdd (.lst f (xs.map e)) (.lst g (ys.map e)))) _ _
    rw [this]
    refine rf_eq ?_
    show R.ok (D.lst .own _) = R.ok (D.lst .own _)
    rw [List.map_append]
  · exact rf_stuck
class JNo {α : Type} (e : α → D) : Prop where h : ∀ x, (e x).all (· != .own) = true
instance : JNo jI := ⟨fun x => by simp [jI, D.all]⟩
instance : JNo jB := ⟨fun x => by simp [jB, D.all]⟩
instance : JNo jS := ⟨fun x => by simp [jS, D.all]⟩
instance : JNo jU := ⟨fun x => by simp [jU, D.all]⟩
class JNoL {α : Type} (e : α → List D) : Prop where h : ∀ x, noOwn (e x) = true
instance : JNoL j0 := ⟨fun _ => rfl⟩
instance [h : JNo e] : JNoL (j1 e) := ⟨fun x => by simp [noOwn, j1, D.allL, h.h x]⟩
instance [h : JNo e] [hs : JNoL es] : JNoL (jC e es) := ⟨fun x => by
  have := hs.h x.2
  unfold noOwn at this ⊢
  simp [jC, D.allL, h.h x.1, this]⟩
instance [h : JNo e] : JNoL (jV e) := ⟨fun x => by
  unfold noOwn
  rw [D.allL_all, List.all_eq_true]
  intro d hd
  obtain ⟨y, _, rfl⟩ := List.mem_map.mp hd
  exact h.h y⟩
instance [hs : JNoL es] : JNo (jT es) := ⟨fun x => by
  have := hs.h x
  unfold noOwn at this
  simp [jT, D.all, this]⟩
theorem o_rep [hf : JNk f] [h : JNo e] {k : Int} : Rf (R.of (dMul (jL f e xs) (jI k))) (jL .own e) (repR xs k) := by
  have h0 : dMul (jL f e xs) (jI k) = lRep (.lst f (xs.map e)) (.int k) := rfl
  rw [h0]
  unfold repR
  by_cases c : -9223372036854775808 ≤ k ∧ k < 9223372036854775808 ∧ xs.length * k.toNat ≤ 16777216
  · rw [if_pos c]
    have hno : noOwn (xs.map e) = true := (inferInstance : JNoL (jV e)).h xs
    have h1 : lRep (.lst f (xs.map e)) (.int k) = some (.lst .own (List.replicate k.toNat (xs.map e)).flatten) := if_pos ⟨hf.h, hno, c.1, c.2.1, by rw [List.length_map]; exact c.2.2⟩
    rw [h1]
    refine rf_eq ?_
    show R.ok (D.lst .own _) = R.ok (D.lst .own _)
    rw [List.map_flatten, List.map_replicate]
  · rw [if_neg c]; exact rf_stuck
def popR {α : Type} (xs : List α) : R (List α × α) := R.of ((xs[xs.length - 1]?).map fun y => (xs.dropLast, y))
def popAtR {α : Type} (xs : List α) (i : Int) : R (List α × α) := if -9223372036854775808 ≤ i ∧ i < 9223372036854775808 then R.of ((ixN xs.length i).bind fun k => (xs[k]?).map fun y => (xs.eraseIdx k, y)) else .stuck
def insR {α : Type} (xs : List α) (i : Int) (x : α) : R (List α) := if xs.length < 16777216 ∧ 0 ≤ i ∧ i < 9223372036854775808 then .ok (xs.take i.toNat ++ [x] ++ xs.drop i.toNat) else .stuck
def indexR (xs : List Int) (k : Int) : R Int := R.of ((firstAt k xs 0).map fun j => ((j : Nat) : Int))
def lrI (i j : Int) : R (List Int) := if (-4611686018427387904 ≤ i ∧ i < 4611686018427387904 ∧ -4611686018427387904 ≤ j ∧ j < 4611686018427387904) ∧ (j - i).toNat ≤ 16777216 then .ok (rngI i (j - i).toNat) else .stuck
theorem o_rev : Rf (R.of (gRev (jL .own e xs) [])) (fun z => (jL .own e z, jU ())) (.ok xs.reverse) := by
  refine rf_eq ?_
  show R.ok (D.lst .own (xs.map e).reverse, D.non) = R.ok (D.lst .own _, D.non)
  rw [List.map_reverse]
theorem o_clr : Rf (R.of (gClr (jL .own e xs) [])) (fun z : List α => (jL .own e z, jU ())) (.ok []) := rf_eq rfl
theorem o_pop : Rf (R.of (gPop (jL .own e xs) [])) (fun z => (jL .own e z.1, e z.2)) (popR xs) := by
  show Rf (R.of (((xs.map e)[(xs.map e).length - 1]?).map fun y => (D.lst .own (xs.map e).dropLast, y))) _ _
  unfold popR
  rw [List.length_map, List.getElem?_map]
  cases xs[xs.length - 1]? with
  | none => exact rf_stuck
  | some y =>
    refine rf_eq ?_
    show R.ok (D.lst .own (xs.map e).dropLast, e y) = R.ok (D.lst .own _, e y)
    rw [List.map_dropLast]
theorem o_popAt {i : Int} : Rf (R.of (gPopAt (jL .own e xs) [jI i])) (fun z => (jL .own e z.1, e z.2)) (popAtR xs i) := by
  show Rf (R.of (if -9223372036854775808 ≤ i ∧ i < 9223372036854775808 then (ixN (xs.map e).length i).bind fun k => ((xs.map e)[k]?).map fun y => (D.lst .own ((xs.map e).eraseIdx k), y) else none)) _ _
  unfold popAtR
  split
  · rw [List.length_map]
    cases ixN xs.length i with
    | none => exact rf_stuck
    | some k =>
      simp only [Option.bind_some]
      rw [List.getElem?_map]
      cases xs[k]? with
      | none => exact rf_stuck
      | some y =>
        refine rf_eq ?_
        show R.ok (D.lst .own ((xs.map e).eraseIdx k), e y) = R.ok (D.lst .own _, e y)
        rw [List.eraseIdx_eq_take_drop_succ, List.eraseIdx_eq_take_drop_succ, List.map_append, List.map_take, List.map_drop]
  · exact rf_stuck
theorem o_ins {i : Int} : Rf (R.of (gIns (jL .own e xs) [jI i, e x])) (fun z => (jL .own e z, jU ())) (insR xs i x) := by
  show Rf (R.of (if (xs.map e).length < 16777216 ∧ 0 ≤ i ∧ i < 9223372036854775808 then some (D.lst .own ((xs.map e).take i.toNat ++ [e x] ++ (xs.map e).drop i.toNat), D.non) else none)) _ _
  unfold insR
  rw [List.length_map]
  split
  · refine rf_eq ?_
    show R.ok (D.lst .own _, D.non) = R.ok (D.lst .own _, D.non)
    rw [List.map_append, List.map_append, List.map_take, List.map_drop]
    rfl
  · exact rf_stuck
theorem o_count {xs : List Int} {k : Int} : mCount (jL f jI xs) [jI k] = some (jI (xs.count k : Nat)) := by
  show (dints (xs.map .int)).map _ = _
  rw [ints_map]
  rfl
theorem o_index {xs : List Int} {k : Int} : Rf (R.of (mIndex (jL f jI xs) [jI k])) jI (indexR xs k) := by
  show Rf (R.of ((dints (xs.map .int)).bind fun ns => (firstAt k ns 0).map fun j => D.int (j : Nat))) _ _
  rw [ints_map]
  unfold indexR
  simp only [Option.bind_some]
  cases firstAt k xs 0 with
  | none => exact rf_stuck
  | some j => exact rf_eq rfl
/-! equality -/
class JFl (k : Nat) {α : Type} (e : α → D) : Prop where h : ∀ x, D.flat k (e x) = true
class JFlL (k : Nat) {α : Type} (e : α → List D) : Prop where h : ∀ x, D.flatL k (e x) = true
section
variable {k : Nat}
instance : JFl k jI := ⟨fun _ => flat_int⟩
instance : JFl k jB := ⟨fun _ => flat_bl⟩
instance : JFl k jS := ⟨fun _ => flat_str⟩
instance : JFl k jU := ⟨fun _ => flat_non⟩
instance [h : JFl k e] : JFl k (jO e) := ⟨fun x => by cases x with
  | none => exact flat_non
  | some x => exact h.h x⟩
instance : JFlL k j0 := ⟨fun _ => by simp [j0, D.flatL]⟩
instance [h : JFl k e] : JFlL k (j1 e) := ⟨fun x => by simp [j1, D.flatL, h.h x]⟩
instance [h : JFl k e] [hs : JFlL k es] : JFlL k (jC e es) := ⟨fun x => by simp [jC, D.flatL, h.h x.1, hs.h x.2]⟩
instance [h : JFl k e] : JFlL k (jV e) := ⟨fun xs => by
  rw [flatL_all, List.all_eq_true]
  intro d hd
  obtain ⟨y, _, rfl⟩ := List.mem_map.mp hd
  exact h.h y⟩
instance [h : JFl k e] : JFl (k + 1) (jL f e) := ⟨fun xs => by
  have := (inferInstance : JFlL k (jV e)).h xs
  show D.flat (k + 1) (.lst f (xs.map e)) = true
  unfold D.flat
  exact this⟩
instance [hs : JFlL k es] : JFl (k + 1) (jT es) := ⟨fun x => by
  show D.flat (k + 1) (.tup (es x)) = true
  unfold D.flat
  exact hs.h x⟩
instance [hs : JFlL k es] : JFl (k + 1) (jR f es) := ⟨fun x => by
  show D.flat (k + 1) (.lst f (es x)) = true
  unfold D.flat
  exact hs.h x⟩
end
class JDq {α : Type} [DecidableEq α] (e e' : α → D) : Prop where h : ∀ x y, deq (e x) (e' y) = decide (x = y)
class JDqL {α : Type} [DecidableEq α] (e e' : α → List D) : Prop where h : ∀ x y, deqL (e x) (e' y) = decide (x = y)
instance : JDq jI jI := ⟨fun x y => by show (x == y) = _; rfl⟩
instance : JDq jB jB := ⟨fun x y => by show (x == y) = _; cases x <;> cases y <;> rfl⟩
instance : JDq jS jS := ⟨fun x y => by show (x == y) = _; by_cases h : x = y <;> simp [h]⟩
instance : JDq jU jU := ⟨fun x y => rfl⟩
section
variable [DecidableEq α] [DecidableEq β] {es' : β → List D}
instance : JDqL j0 j0 := ⟨fun _ _ => rfl⟩
instance [h : JDq e e'] : JDqL (j1 e) (j1 e') := ⟨fun x y => by simp [j1, deqL, h.h]⟩
instance [h : JDq e e'] [hs : JDqL es es'] : JDqL (jC e es) (jC e' es') := ⟨fun x y => by
  obtain ⟨x1, x2⟩ := x
  obtain ⟨y1, y2⟩ := y
  simp [jC, deqL, h.h, hs.h]⟩
theorem dq_map [h : JDq e e'] : ∀ xs ys : List α, deqL (xs.map e) (ys.map e') = decide (xs = ys)
  | [], [] => rfl
  | [], _ :: _ => rfl
  | _ :: _, [] => rfl
  | x :: xs, y :: ys => by
    rw [List.map_cons, List.map_cons]
    unfold deqL
    rw [h.h, dq_map xs ys]
    simp
instance [h : JDq e e'] : JDqL (jV e) (jV e') := ⟨dq_map⟩
instance [h : JDq e e'] : JDq (jL f e) (jL g e') := ⟨fun x y => by
  have := dq_map (e := e) (e' := e') x y
  simpa [jL, deq] using this⟩
instance [hs : JDqL es es'] : JDq (jT es) (jT es') := ⟨fun x y => by simpa [jT, deq] using hs.h x y⟩
instance [hs : JDqL es es'] : JDq (jR f es) (jR g es') := ⟨fun x y => by simpa [jR, deq] using hs.h x y⟩
/-- never None -/
class JNn {α : Type} (e : α → D) : Prop where
  h : ∀ x, e x ≠ .non
  h2 : ∀ x, e x ≠ .hole
instance : JNn jI := ⟨fun _ => D.noConfusion, fun _ => D.noConfusion⟩
instance : JNn jB := ⟨fun _ => D.noConfusion, fun _ => D.noConfusion⟩
instance : JNn jS := ⟨fun _ => D.noConfusion, fun _ => D.noConfusion⟩
instance {α : Type} {e : α → D} : JNn (jL f e) := ⟨fun _ => D.noConfusion, fun _ => D.noConfusion⟩
instance {β : Type} {es : β → List D} : JNn (jT es) := ⟨fun _ => D.noConfusion, fun _ => D.noConfusion⟩
instance {β : Type} {es : β → List D} : JNn (jR f es) := ⟨fun _ => D.noConfusion, fun _ => D.noConfusion⟩
theorem deq_non_l {d : D} (h : d ≠ .non) : deq .non d = false := by cases d <;> first | rfl | exact absurd rfl h
theorem deq_non_r {d : D} (h : d ≠ .non) : deq d .non = false := by cases d <;> first | rfl | exact absurd rfl h
instance [h : JDq e e'] [h1 : JNn e] [h2 : JNn e'] : JDq (jO e) (jO e') := ⟨fun x y => by
  cases x with
  | none => cases y with
    | none => rfl
    | some y => simpa [jO] using deq_non_l (h2.h y)
  | some x => cases y with
    | none => simpa [jO] using deq_non_r (h1.h x)
    | some y => simpa [jO] using h.h x y⟩
theorem o_eq [h1 : JFl 40 e] [h2 : JFl 40 e'] [h : JDq e e'] : dEq (e x) (e' y) = some (jB (decide (x = y))) := by
  unfold dEq
  rw [h1.h, h2.h, h.h]
  rfl
theorem o_ne [h1 : JFl 40 e] [h2 : JFl 40 e'] [h : JDq e e'] : dNe (e x) (e' y) = some (jB (!decide (x = y))) := by
  unfold dNe
  rw [h1.h, h2.h, h.h]
  rfl
theorem any_mem [h : JDq e e'] (x : α) : ∀ xs : List α, ((xs.map e).any fun z => deq z (e' x)) = decide (x ∈ xs)
  | [] => by simp
  | y :: ys => by
    rw [List.map_cons, List.any_cons, h.h, any_mem x ys]
    simp [eq_comm]
theorem o_in [h1 : JFl 40 e'] [h2 : JFl 40 e] [h : JDq e e'] : dIn (e' x) (jL f e xs) = some (jB (decide (x ∈ xs))) := by
  show (if D.flat 40 (e' x) && D.flatL 40 (xs.map e) then some (D.bl ((xs.map e).any fun z => deq z (e' x))) else none) = _
  have := (inferInstance : JFlL 40 (jV e)).h xs
  rw [h1.h, show D.flatL 40 (xs.map e) = true from this, any_mem]
  rfl
theorem o_nin [h1 : JFl 40 e'] [h2 : JFl 40 e] [h : JDq e e'] : dNin (e' x) (jL f e xs) = some (jB (!decide (x ∈ xs))) := by
  show (if D.flat 40 (e' x) && D.flatL 40 (xs.map e) then some (D.bl (!(xs.map e).any fun z => deq z (e' x))) else none) = _
  have := (inferInstance : JFlL 40 (jV e)).h xs
  rw [h1.h, show D.flatL 40 (xs.map e) = true from this, any_mem]
  rfl
theorem o_inV [h1 : JFl 40 e'] [h2 : JFl 40 e] [h : JDq e e'] : dIn (e' x) (jT (jV e) xs) = some (jB (decide (x ∈ xs))) := o_in (f := .own)
theorem o_ninV [h1 : JFl 40 e'] [h2 : JFl 40 e] [h : JDq e e'] : dNin (e' x) (jT (jV e) xs) = some (jB (!decide (x ∈ xs))) := o_nin (f := .own)
/-! is None, is True -/
theorem o_isO [h : JNn e] {o : Option α} : dIs (jO e o) (jU ()) = some (jB o.isNone) := by
  cases o with
  | none => rfl
  | some x =>
    have := h.h x
    show dIs (e x) .non = some (.bl false)
    unfold dIs dOr dIsN
    have this2 := h.h2 x
    revert this this2
    cases e x <;> intro this this2 <;> first | rfl | exact absurd rfl this | exact absurd rfl this2
theorem o_notO [h : JNn e] {o : Option α} : dNot2 (jO e o) (jU ()) = some (jB o.isSome) := by
  cases o with
  | none => rfl
  | some x =>
    have := h.h x
    show dNot2 (e x) .non = some (.bl true)
    unfold dNot2 dOr dNotN
    have this2 := h.h2 x
    revert this this2
    cases e x <;> intro this this2 <;> first | rfl | exact absurd rfl this | exact absurd rfl this2
theorem o_isB {b c : Bool} : dIs (jB b) (jB c) = some (jB (b == c)) := rfl
end
/-- what Python calls the kind of a value -/
theorem o_isi {T : Bt} {d : D} {b : Bool} (h : dIsi T d = some (.bl b)) : dIsi T d = some (jB b) := h
end
section
variable {α β ν B : Type} {E : ν → B} {n : R ν} {ρ : List Sl} {K : D → R B} {p p1 p2 : Pm} {pa : PA'} {f : D → List D → Option D}
def islK (f : D → List D → Option D) (pa : PA') (ρ : List Sl) (K : D → R B) (d : D) : R B := if isLst d = true then (pa ρ).bind fun ds => (R.of (f d ds)).bind K else .stuck
theorem c_met (q : Rf ((p ρ).bind (islK f pa ρ K)) E n) : Rf ((pMet f p pa ρ).bind K) E n := by
  unfold pMet
  rw [bind_bind]
  refine rf_congr q fun d => ?_
  unfold islK
  split
  · rw [bind_bind]
  · rfl
theorem c_isl {g : Fl} {e : α → D} {xs : List α} (q : Rf ((pa ρ).bind fun ds => (R.of (f (jL g e xs) ds)).bind K) E n) : Rf (islK f pa ρ K (jL g e xs)) E n := q
def lr1K (d : D) : R D := match d with
  | .int j => lrR 0 j
  | _ => .stuck
def lr2K (d d2 : D) : R D := match d, d2 with
  | .int i, .int j => lrR i j
  | _, _ => .stuck
theorem c_pLR1 (q : Rf ((p ρ).bind fun d => (lr1K d).bind K) E n) : Rf ((pLR1 p ρ).bind K) E n := by
  rw [show pLR1 p ρ = (p ρ).bind lr1K from rfl, bind_bind]
  exact q
theorem c_pLR2 (q : Rf ((p1 ρ).bind fun d => (p2 ρ).bind fun d2 => (lr2K d d2).bind K) E n) : Rf ((pLR2 p1 p2 ρ).bind K) E n := by
  rw [show pLR2 p1 p2 ρ = (p1 ρ).bind fun d => (p2 ρ).bind fun d2 => lr2K d d2 from rfl]
  simp only [bind_bind]
  exact q
theorem c_lrI {i j : Int} {n : List Int → R ν} (q : ∀ z, Rf (K (jL .own jI z)) E (n z)) : Rf ((lrR i j).bind K) E ((lrI i j).bind n) := by
  refine rf_bind (e := jL .own jI) ?_ q
  unfold lrR lrI
  split
  · refine rf_eq ?_
    rw [rng_map]
    rfl
  · exact rf_stuck
theorem c_lrR1 {j : Int} {n : List Int → R ν} (q : ∀ z, Rf (K (jL .own jI z)) E (n z)) : Rf ((lr1K (jI j)).bind K) E ((lrI 0 j).bind n) := c_lrI q
theorem c_lrR2 {i j : Int} {n : List Int → R ν} (q : ∀ z, Rf (K (jL .own jI z)) E (n z)) : Rf ((lr2K (jI i) (jI j)).bind K) E ((lrI i j).bind n) := c_lrI q
theorem rf_of {γ : Type} {o : Option β} {e : γ → β} {x : γ} (h : o = some (e x)) : Rf (R.of o) e (.ok x) := by subst h; exact rf_eq rfl
@[simp] theorem lift_some {f : Fl} {e : α → D} {xs : List α} : jL f (jO e) (xs.map some) = jL f e xs := by
  show D.lst f _ = D.lst f _
  rw [List.map_map]
  rfl
/-- an optional value that has to be there -/
theorem rf_unO {d : D → R B} {e : α → D} {o : Option α} {n : α → R ν} (q : ∀ x, Rf (d (e x)) E (n x)) : Rf (d (jO e o)) E ((R.of o).bind n) := by
  cases o with
  | none => exact rf_stuck
  | some x => exact q x
theorem rf_unG {B' : Type} {E' : ν → B'} {d : D → R B'} {e : α → D} {o : Option α} {n : α → R ν} (q : ∀ x, Rf (d (e x)) E' (n x)) : Rf (d (jO e o)) E' ((R.of o).bind n) := rf_unO q
end
end DL

namespace DL
open PySem PySem.Spec L2
/-! ### either of two kinds; copies -/
def jZ {α β : Type} (e1 : α → D) (e2 : β → D) : α ⊕ β → D
  | .inl x => e1 x
  | .inr x => e2 x
section
variable {g : Fl → Fl} {α β ν B : Type} {e1 e1' : α → D} {e2 e2' : β → D}
instance [h1 : JTag g e1 e1'] [h2 : JTag g e2 e2'] : JTag g (jZ e1 e2) (jZ e1' e2') := ⟨fun x => by cases x with
  | inl x => exact h1.h x
  | inr x => exact h2.h x⟩
instance [h1 : JNb e1] [h2 : JNb e2] : JNb (jZ e1 e2) := ⟨fun x => by cases x with
  | inl x => exact h1.h x
  | inr x => exact h2.h x⟩
instance {k : Nat} [h1 : JFl k e1] [h2 : JFl k e2] : JFl k (jZ e1 e2) := ⟨fun x => by cases x with
  | inl x => exact h1.h x
  | inr x => exact h2.h x⟩
instance {f : Fl} : JTagF (fun _ => .own) f .own := ⟨rfl⟩
theorem z_l {x : α ⊕ β} {y : α} (h : x.getLeft? = some y) : jZ e1 e2 x = e1 y := by
  cases x with
  | inl x => cases h; rfl
  | inr x => cases h
theorem z_r {x : α ⊕ β} {y : β} (h : x.getRight? = some y) : jZ e1 e2 x = e2 y := by
  cases x with
  | inl x => cases h
  | inr x => cases h; rfl
def jH : Unit → D := fun _ => .hole
instance : JTag g jH jH := ⟨fun _ => by simp [jH]⟩
instance : JNb jH := ⟨fun _ => by simp [jH, noBor, D.all]⟩
variable {E : ν → B} {KS : Fw → R B} {s : Sm}
theorem c_takeP {i : Nat} {ks : List Nat} {u : Bool} {ρ ρ2 : List Sl} {e : α → D} {ex : β → D} {x : α} {y : β} {n : R ν} {K : D × List Sl → R B} (h : ρ[i]? = some (.val u (e x))) (hx : atP (e x) ks = some (ex y)) (h2 : ρ.set i (.val u (hoP (e x) ks)) = ρ2) (q : Rf (K (ex y, ρ2)) E n) : Rf ((eTakeP i ks ρ).bind K) E n := by
  unfold eTakeP
  rw [h]
  dsimp only
  rw [hx, h2]
  exact q
theorem s_cast {F : D → List Sl} {ex : α → D} {ey : β → D} {g : α → Option β} {x : α} {n : β → R ν} (hg : ∀ x y, g x = some y → ex x = ey y) (q : ∀ y, Rf ((s (F (ey y))).bind KS) E (n y)) : Rf ((s (F (ex x))).bind KS) E ((R.of (g x)).bind n) := by
  cases h : g x with
  | none => exact rf_stuck
  | some y => rw [hg x y h]; exact q y
end
end DL

namespace DL
open PySem PySem.Spec L2
/-! ### native programs, plainly -/
/-- a list by its places -/
def lst {α : Type} (n : Nat) (p : Nat → α) : List α := (List.range n).map p
section
variable {α β γ σ ν : Type} {n k : Nat} {p q : Nat → α} {f : Nat → α} {x : α}
@[simp] theorem lst_len : (lst n p).length = n := by simp [lst]
theorem lst_get (h : k < n) : (lst n p)[k]? = some (p k) := by simp [lst, h]
@[simp] theorem lst_zero : lst 0 p = [] := rfl
theorem lst_succ : lst (n + 1) p = lst n p ++ [p n] := by simp [lst, List.range_succ]
theorem lst_congr (h : ∀ k, k < n → p k = q k) : lst n p = lst n q := List.map_congr_left fun k hk => h k (List.mem_range.mp hk)
theorem lst_inj (h : lst n p = lst n q) (hk : k < n) : p k = q k := by
  have := congrArg (·[k]?) h
  simpa [lst_get hk] using this
theorem lst_map {g : α → β} : (lst n p).map g = lst n fun k => g (p k) := by simp [lst, Function.comp_def]
theorem lst_mem {x : α} : x ∈ lst n p ↔ ∃ k, k < n ∧ p k = x := by simp [lst]
theorem lst_of [Inhabited α] (xs : List α) : xs = lst xs.length fun k => xs.getD k default := by
  apply List.ext_getElem?
  intro k
  by_cases h : k < xs.length
  · rw [lst_get h, List.getElem?_eq_getElem h]; simp [h]
  · rw [List.getElem?_eq_none (by omega), List.getElem?_eq_none (by simp; omega)]
theorem lst_snoc : lst k p ++ [x] = lst (k + 1) fun i => if i = k then x else p i := by
  rw [lst_succ, if_pos rfl]
  congr 1
  exact lst_congr fun i hi => by rw [if_neg (by omega)]
theorem lst_snoc' (h : p k = x) : lst k p ++ [x] = lst (k + 1) p := by rw [lst_succ, h]
theorem lst_set : (lst n p).set k x = lst n fun i => if i = k then x else p i := by
  apply List.ext_getElem?
  intro i
  by_cases h : i < n
  · rw [lst_get h]
    by_cases e : k = i
    · subst e; rw [List.getElem?_set_self (by simpa using h)]; simp
    · rw [List.getElem?_set_ne e, lst_get h, if_neg (Ne.symm e)]
  · rw [List.getElem?_eq_none (by simpa using h), List.getElem?_eq_none (by simpa using h)]
theorem lst_take (h : k ≤ n) : (lst n p).take k = lst k p := by
  apply List.ext_getElem?
  intro i
  by_cases hi : i < k
  · rw [List.getElem?_take_of_lt hi, lst_get (by omega), lst_get hi]
  · rw [List.getElem?_eq_none (by simp; omega), List.getElem?_eq_none (by simp; omega)]
theorem lst_drop : (lst n p).drop k = lst (n - k) fun i => p (k + i) := by
  apply List.ext_getElem?
  intro i
  rw [List.getElem?_drop]
  by_cases hi : i < n - k
  · rw [lst_get (by omega), lst_get hi]
  · rw [List.getElem?_eq_none (by simp; omega), List.getElem?_eq_none (by simp; omega)]
theorem lst_rev : (lst n p).reverse = lst n fun i => p (n - 1 - i) := by
  apply List.ext_getElem?
  intro i
  by_cases hi : i < n
  · rw [List.getElem?_reverse (by simpa using hi), lst_len, lst_get (by omega), lst_get hi]
  · rw [List.getElem?_eq_none (by simp; omega), List.getElem?_eq_none (by simp; omega)]
theorem lst_app {m : Nat} {p : Nat → α} {q : Nat → α} : lst n p ++ lst m q = lst (n + m) fun i => if i < n then p i else q (i - n) := by
  apply List.ext_getElem?
  intro i
  by_cases hi : i < n
  · rw [List.getElem?_append_left (by simpa using hi), lst_get hi, lst_get (by omega), if_pos hi]
  · rw [List.getElem?_append_right (by simp; omega), lst_len]
    by_cases hj : i < n + m
    · rw [lst_get (by omega), lst_get hj, if_neg hi]
    · rw [List.getElem?_eq_none (by simp; omega), List.getElem?_eq_none (by simp; omega)]
@[simp] theorem bind_okk {x : α} {f : α → R β} : (R.ok x).bind f = f x := rfl
@[simp] theorem bind_exn {x : Xn} {f : α → R β} : (R.exn x : R α).bind f = .exn x := rfl
/-! items -/
theorem idx_get {xs : List α} {k : Nat} (h : xs[k]? = some x) : idx xs (k : Int) = .ok x := by
  have hk := (List.getElem?_eq_some_iff.mp h).1
  unfold idx
  rw [atI_ok (by omega) (by omega), Int.toNat_natCast, h]
  rfl
theorem idx_lst (h : k < n) : idx (lst n p) (k : Int) = .ok (p k) := idx_get (lst_get h)
theorem idx_lstI {i : Int} (h0 : 0 ≤ i) (h1 : i < n) : idx (lst n p) i = .ok (p i.toNat) := by
  obtain ⟨k, rfl⟩ : ∃ k : Nat, i = k := ⟨i.toNat, by omega⟩
  rw [idx_lst (by omega), Int.toNat_natCast]
theorem idx_lst1 (h : k + 1 < n) : idx (lst n p) ((k : Int) + 1) = .ok (p (k + 1)) := by
  have e : ((k : Int) + 1) = ((k + 1 : Nat) : Int) := by omega
  rw [e, idx_lst h]
theorem idx_lstP (h0 : 0 < k) (h : k < n + 1) : idx (lst n p) ((k : Int) - 1) = .ok (p (k - 1)) := by
  have e : ((k : Int) - 1) = ((k - 1 : Nat) : Int) := by omega
  rw [e, idx_lst (by omega)]
theorem idx_last (h : 0 < n) : idx (lst n p) (-1) = .ok (p (n - 1)) := by
  unfold idx atI ixN
  rw [lst_len, if_neg (by omega), if_pos (by omega)]
  have e : ((-1 : Int) + n).toNat = n - 1 := by omega
  simp only [Option.bind_some, e]
  rw [lst_get (by omega)]
  rfl
theorem setR_lst (h : k < n) : setR (lst n p) (k : Int) x = .ok (lst n fun i => if i = k then x else p i) := by
  unfold setR
  rw [lst_len, ixN_ok (by omega) (by omega), Int.toNat_natCast]
  simp only [Option.map_some, lst_set]
  rfl
theorem appR_lst (h : k < 16777216) : appR (lst k p) x = .ok (lst (k + 1) fun i => if i = k then x else p i) := by
  unfold appR
  rw [lst_len, if_pos h, lst_snoc]
theorem appR_lst' (h : k < 16777216) (hx : p k = x) : appR (lst k p) x = .ok (lst (k + 1) p) := by
  unfold appR
  rw [lst_len, if_pos h, lst_snoc' hx]
theorem appR_ok {xs : List α} (h : xs.length < 16777216) : appR xs x = .ok (xs ++ [x]) := if_pos h
theorem catR_ok {xs ys : List α} (h : xs.length + ys.length ≤ 16777216) : catR xs ys = .ok (xs ++ ys) := if_pos h
theorem repR_ok {xs : List α} {k : Int} (h0 : 0 ≤ k) (h1 : k ≤ 16777216) (h2 : xs.length * k.toNat ≤ 16777216) : repR xs k = .ok (List.replicate k.toNat xs).flatten := if_pos ⟨by omega, by omega, h2⟩
theorem mulR_ok {a b : Int} (h : (-18446744073709551616 < a ∧ a < 18446744073709551616) ∨ (-18446744073709551616 < b ∧ b < 18446744073709551616)) : mulR a b = .ok (a * b) := by
  unfold mulR cMul
  rw [if_pos (by rw [decide_eq_true_eq]; exact h)]
theorem divR_ok {a b : Int} (h0 : 0 < b) (h1 : b < 1073741824) : divR a b = .ok (a / b) := by
  unfold divR cDivN
  rw [if_pos (by rw [decide_eq_true_eq]; exact ⟨h0, h1⟩)]
theorem modR_ok {a b : Int} (h0 : 0 < b) : modR a b = .ok (a % b) := by
  unfold modR cMod
  rw [if_pos (by rw [decide_eq_true_eq]; exact h0)]
theorem rngI_lst {lo : Int} : rngI lo n = lst n fun k => lo + (k : Nat) := rfl
theorem rngR_nat (h : n < 4611686018427387904) : rngR (n : Int) = .ok (lst n fun k => (k : Int)) := by
  unfold rngR
  rw [if_pos ⟨by omega, by omega⟩, rngI_lst, Int.toNat_natCast]
  simp
theorem rngR_int {i : Int} (h : i < 4611686018427387904) (h0 : -4611686018427387904 ≤ i) : rngR i = .ok (lst i.toNat fun k => (k : Int)) := by
  unfold rngR
  rw [if_pos ⟨h0, h⟩, rngI_lst]
  simp
theorem rng2R_ok {i j : Int} (hi : -4611686018427387904 ≤ i ∧ i < 4611686018427387904) (hj : -4611686018427387904 ≤ j ∧ j < 4611686018427387904) : rng2R i j = .ok (lst (j - i).toNat fun k => i + (k : Nat)) := by
  unfold rng2R
  rw [if_pos ⟨hi.1, hi.2, hj.1, hj.2⟩, rngI_lst]
theorem revR_nat (h : n < 4611686018427387904) : revR (n : Int) = .ok (lst n fun k => ((n - 1 - k : Nat) : Int)) := by
  unfold revR
  rw [if_pos ⟨by omega, by omega⟩]
  congr 1
  rw [Int.toNat_natCast]
  exact List.map_congr_left fun k hk => by have := List.mem_range.mp hk; omega
theorem lrI_nat (h : n ≤ 16777216) : lrI 0 (n : Int) = .ok (lst n fun k => (k : Int)) := by
  unfold lrI
  rw [if_pos ⟨⟨by omega, by omega, by omega, by omega⟩, by omega⟩, rngI_lst]
  simp
/-! comprehensions -/
theorem mapP_ok {g : α → β} {xs : List α} (h : xs.length ≤ 16777216) : mapP g xs = .ok (xs.map g) := if_pos h
theorem filtP_ok {c : α → Bool} {g : α → β} {xs : List α} (h : xs.length ≤ 16777216) : filtP c g xs = .ok ((xs.filter c).map g) := if_pos h
theorem lcM_eq {c : α → R Bool} {g : α → R β} {c' : α → Bool} {g' : α → β} : ∀ (xs : List α) (acc : List β), acc.length + xs.length ≤ 16777216 → (∀ x ∈ xs, c x = .ok (c' x)) → (∀ x ∈ xs, c' x = true → g x = .ok (g' x)) → lcM c g xs acc = .ok (acc ++ (xs.filter c').map g')
  | [], acc, _, _, _ => by simp [lcM]
  | x :: xs, acc, h, hc, hg => by
    rw [List.length_cons] at h
    have ih := fun acc h => lcM_eq (c := c) (g := g) (c' := c') (g' := g') xs acc h (fun x hx => hc x (List.mem_cons_of_mem _ hx)) (fun x hx => hg x (List.mem_cons_of_mem _ hx))
    simp only [lcM, hc x List.mem_cons_self, noX, R.bind]
    cases e : c' x
    · rw [if_neg (by decide), ih _ (by omega), List.filter_cons_of_neg (by simp [e])]
    · rw [if_pos rfl, hg x List.mem_cons_self e]
      simp only
      rw [if_pos (by omega), ih _ (by simp; omega), List.filter_cons_of_pos (by simp [e])]
      simp
theorem lcM_map {g : α → R β} {g' : α → β} {xs : List α} (h : xs.length ≤ 16777216) (hg : ∀ x ∈ xs, g x = .ok (g' x)) : lcM (fun _ => .ok true) g xs [] = .ok (xs.map g') := by
  rw [lcM_eq (c' := fun _ => true) (g' := g') xs [] (by simpa using h) (fun _ _ => rfl) fun x hx _ => hg x hx, List.filter_eq_self.mpr (fun _ _ => rfl), List.nil_append]
theorem lcM_lst {g : α → R β} {g' : Nat → β} (h : n ≤ 16777216) (hg : ∀ k, k < n → g (f k) = .ok (g' k)) : lcM (fun _ => .ok true) g (lst n f) [] = .ok (lst n g') := by
  have main : ∀ m, m ≤ n → ∀ acc : List β, acc.length + m ≤ 16777216 → lcM (fun _ => .ok true) g ((List.range' (n - m) m).map f) acc = .ok (acc ++ (List.range' (n - m) m).map g') := by
    intro m
    induction m with
    | zero => intro _ acc _; simp [lcM]
    | succ m ih =>
      intro hm acc ha
      rw [List.range'_succ, List.map_cons, List.map_cons]
      simp only [lcM, noX, R.bind, if_true, hg (n - (m + 1)) (by omega)]
      rw [if_pos (by omega)]
      have := ih (by omega) (acc ++ [g' (n - (m + 1))]) (by simp; omega)
      rw [show n - (m + 1) + 1 = n - m by omega, this]
      simp
  have := main n (Nat.le_refl _) [] (by simpa using h)
  rw [Nat.sub_self, ← List.range_eq_range'] at this
  simpa [lst] using this
/-- every item has Q, the state keeps I -/
theorem wp_lcS {g : α → σ → R (β × σ)} {P : List β × σ → Prop} (I : Nat → List β → σ → Prop) {s0 : σ} (xs : List α) (hl : xs.length ≤ 16777216) (h0 : I 0 [] s0)
    (turn : ∀ k x acc s, xs[k]? = some x → I k acc s → acc.length = k → Wp (g x s) fun z => I (k + 1) (acc ++ [z.1]) z.2) (fin : ∀ acc s, I xs.length acc s → acc.length = xs.length → P (acc, s)) : Wp (lcS (fun _ s => .ok (true, s)) g xs [] s0) P := by
  have main : ∀ (ys : List α) (k : Nat) (acc : List β) (s : σ), (∀ j, ys[j]? = xs[k + j]?) → k + ys.length = xs.length → acc.length = k → I k acc s → Wp (lcS (fun _ s => .ok (true, s)) g ys acc s) P := by
    intro ys
    induction ys with
    | nil =>
      intro k acc s hx hk ha hI
      simp only [lcS, wp_ok]
      simp at hk
      subst hk
      exact fin acc s hI ha
    | cons y ys ih =>
      intro k acc s hx hk ha hI
      simp only [lcS, noX, R.bind, if_true]
      have e := turn k y acc s (by have := hx 0; simpa using this.symm) hI ha
      obtain ⟨z, e1, e2⟩ := e
      rw [e1]
      simp only [noX]
      rw [if_pos (by simp at hk; omega)]
      exact ih (k + 1) _ _ (fun j => by have := hx (j + 1); rw [show k + 1 + j = k + (j + 1) by omega]; simpa using this) (by simp at hk; omega) (by simp [ha]) e2
  exact main xs 0 [] s0 (fun j => by rw [Nat.zero_add]) (by simp) rfl h0
/-! loops -/
theorem forC_eq {body : α → σ → (σ → R ν) → (σ → R ν) → R ν} {after : σ → R ν} (S : Nat → σ) (h : ∀ k nx bk, k < n → body (f k) (S k) nx bk = nx (S (k + 1))) : forC body after (lst n f) (S 0) = after (S n) := by
  have main : ∀ m, m ≤ n → forC body after ((List.range' (n - m) m).map f) (S (n - m)) = after (S n) := by
    intro m
    induction m with
    | zero => intro _; simp [forC]
    | succ m ih =>
      intro hm
      rw [List.range'_succ, List.map_cons]
      unfold forC
      rw [h _ _ _ (by omega), show n - (m + 1) + 1 = n - m by omega]
      exact ih (by omega)
  have := main n (Nat.le_refl _)
  rw [Nat.sub_self, ← List.range_eq_range'] at this
  exact this
/-- the loop is left at the place e -/
theorem forC_cut {body : α → σ → (σ → R ν) → (σ → R ν) → R ν} {after : σ → R ν} {r : R ν} {e : Nat} (S : Nat → σ) (he : e < n) (h : ∀ k nx bk, k < e → body (f k) (S k) nx bk = nx (S (k + 1))) (hb : ∀ nx, body (f e) (S e) nx after = r) : forC body after (lst n f) (S 0) = r := by
  have main : ∀ m, m ≤ e → forC body after ((List.range' (e - m) (n - (e - m))).map f) (S (e - m)) = r := by
    intro m
    induction m with
    | zero =>
      intro _
      rw [Nat.sub_zero, show n - e = n - e - 1 + 1 by omega, List.range'_succ, List.map_cons]
      unfold forC
      exact hb _
    | succ m ih =>
      intro hm
      rw [show n - (e - (m + 1)) = n - (e - m) + 1 by omega, List.range'_succ, List.map_cons]
      unfold forC
      rw [h _ _ _ (by omega), show e - (m + 1) + 1 = e - m by omega]
      exact ih (by omega)
  have := main e (Nat.le_refl _)
  rw [Nat.sub_self, Nat.sub_zero, ← List.range_eq_range'] at this
  exact this
theorem wp_forC {body : α → σ → (σ → R ν) → (σ → R ν) → R ν} {after : σ → R ν} {P : ν → Prop} (I : Nat → σ → Prop) (A : σ → Prop) {s0 : σ} (xs : List α) (h0 : I 0 s0)
    (turn : ∀ k x s nx bk, xs[k]? = some x → I k s → (∀ s', I (k + 1) s' → Wp (nx s') P) → (∀ s', A s' → Wp (bk s') P) → Wp (body x s nx bk) P) (fin : ∀ s, I xs.length s → A s) (out : ∀ s, A s → Wp (after s) P) : Wp (forC body after xs s0) P := by
  have main : ∀ (ys : List α) (k : Nat) (s : σ), (∀ j, ys[j]? = xs[k + j]?) → k + ys.length = xs.length → I k s → Wp (forC body after ys s) P := by
    intro ys
    induction ys with
    | nil =>
      intro k s hx hk hI
      simp at hk
      subst hk
      exact out s (fin s hI)
    | cons y ys ih =>
      intro k s hx hk hI
      unfold forC
      refine turn k y s _ _ (by have := hx 0; simpa using this.symm) hI (fun s' hs' => ?_) fun s' hs' => out s' hs'
      exact ih (k + 1) s' (fun j => by have := hx (j + 1); rw [show k + 1 + j = k + (j + 1) by omega]; simpa using this) (by simp at hk; omega) hs'
  exact main xs 0 s0 (fun j => by rw [Nat.zero_add]) (by simp) h0
/-- .. over a list by its places -/
theorem wp_forN {body : α → σ → (σ → R ν) → (σ → R ν) → R ν} {after : σ → R ν} {P : ν → Prop} (I : Nat → σ → Prop) (A : σ → Prop) {s0 : σ} (h0 : I 0 s0)
    (turn : ∀ k s nx bk, k < n → I k s → (∀ s', I (k + 1) s' → Wp (nx s') P) → (∀ s', A s' → Wp (bk s') P) → Wp (body (f k) s nx bk) P) (fin : ∀ s, I n s → A s) (out : ∀ s, A s → Wp (after s) P) : Wp (forC body after (lst n f) s0) P := by
  refine wp_forC I A (lst n f) h0 (fun k x s nx bk hx => ?_) (by simpa using fin) out
  have hk : k < n := by have := (List.getElem?_eq_some_iff.mp hx).1; simpa using this
  rw [lst_get hk] at hx
  cases hx
  exact turn k s nx bk hk
theorem wp_whileC {step : σ → (σ → R ν) → R ν} {P : ν → Prop} (I : Nat → σ → Prop) (turn : ∀ m s nx, I (m + 1) s → (∀ s', I m s' → Wp (nx s') P) → Wp (step s nx) P) (no : ∀ s, ¬ I 0 s) : ∀ (m : Nat) (s : σ), I m s → Wp (whileC step m s) P
  | 0, s, h => (no s h).elim
  | m + 1, s, h => turn m s _ h fun s' h' => wp_whileC I turn no m s' h'
theorem wp_J {κ : Type} {k : κ → R ν} {f : (κ → R ν) → R ν} {P : ν → Prop} (Q : κ → Prop) (hk : ∀ s, Q s → Wp (k s) P) (hf : ∀ j, (∀ s, Q s → Wp (j s) P) → Wp (f j) P) : Wp (J k f) P := hf k hk
@[simp] theorem wp_ifb {b : Bool} {x y : R ν} {P : ν → Prop} : Wp (if b = true then x else y) P ↔ if b = true then Wp x P else Wp y P := by split <;> rfl
theorem Wp.ok_eq {r : R α} {x : α} (h : Wp r (· = x)) : r = .ok x := h.eq
theorem wp_eq {r : R α} {x : α} {P : α → Prop} (h : r = .ok x) (p : P x) : Wp r P := ⟨x, h, p⟩
theorem Wp.bind' {r : R β} {f : β → R α} {Q : β → Prop} {P : α → Prop} (h : Wp r Q) (k : ∀ x, Q x → Wp (f x) P) : Wp (r.bind f) P := by
  rw [wp_bind]
  exact h.mono k
/-! slices -/
theorem cut_to {xs : List α} {k : Nat} : cut xs none (some (k : Int)) = xs.take k := by
  unfold cut
  rw [HT.sIx_none, HT.sIx_nat]
  simp
theorem cut_from {xs : List α} {k : Nat} : cut xs (some (k : Int)) none = xs.drop k := by
  unfold cut
  rw [HT.sIx_none, HT.sIx_nat]
  by_cases h : k ≤ xs.length
  · rw [Nat.min_eq_left h, List.take_of_length_le (by simp)]
  · rw [Nat.min_eq_right (by omega), List.drop_of_length_le (Nat.le_refl _), List.drop_of_length_le (by omega)]
    simp
theorem cut_mid {xs : List α} {i j : Nat} (hi : i ≤ xs.length) (hj : j ≤ xs.length) : cut xs (some (i : Int)) (some (j : Int)) = (xs.drop i).take (j - i) := by
  unfold cut
  rw [HT.sIx_nat, HT.sIx_nat, Nat.min_eq_left hi, Nat.min_eq_left hj]
theorem maxR_ok {xs : List Int} (h : xs ≠ []) : maxR xs = .ok (imax xs) := if_neg h
theorem minR_ok {xs : List Int} (h : xs ≠ []) : minR xs = .ok (imin xs) := if_neg h
theorem popAtR_ok {xs : List α} {k : Nat} {x : α} (h : xs[k]? = some x) (hk : k < 9223372036854775808) : popAtR xs (k : Int) = .ok (xs.eraseIdx k, x) := by
  have hl := (List.getElem?_eq_some_iff.mp h).1
  unfold popAtR
  rw [if_pos ⟨by omega, by omega⟩, ixN_ok (by omega) (by omega), Int.toNat_natCast]
  simp only [Option.bind_some, h]
  rfl
theorem firstAt_mem {x : Int} : ∀ {xs : List Int} {i : Nat}, x ∈ xs → ∃ j, firstAt x xs i = some j
  | y :: ys, i, h => by
    unfold firstAt
    by_cases e : y = x
    · exact ⟨i, by simp [e]⟩
    · have h2 : x ∈ ys := by
        rcases List.mem_cons.mp h with z | z
        · exact absurd z.symm e
        · exact z
      obtain ⟨j, hj⟩ := firstAt_mem (i := i + 1) h2
      exact ⟨j, by simp [e, hj]⟩
theorem indexR_mem {xs : List Int} {x : Int} (h : x ∈ xs) : ∃ k : Nat, indexR xs x = .ok (k : Int) ∧ xs[k]? = some x := by
  obtain ⟨j, hj⟩ := firstAt_mem (i := 0) h
  have := firstAt_some hj
  exact ⟨j, by unfold indexR; rw [hj]; rfl, by simpa using this.2.1⟩
/-- sums by places -/
def psum (g : Nat → Int) (k : Nat) : Int := (lst k g).sum
@[simp] theorem psum_zero {g : Nat → Int} : psum g 0 = 0 := rfl
theorem psum_succ {g : Nat → Int} {k : Nat} : psum g (k + 1) = psum g k + g k := by
  unfold psum
  rw [lst_succ, List.sum_append]
  simp
theorem psum_mono {g : Nat → Int} {n i j : Nat} (h : ∀ k, k < n → 0 ≤ g k) (hj : j ≤ n) (hij : i ≤ j) : psum g i ≤ psum g j := by
  induction j with
  | zero => rw [show i = 0 by omega]; exact Int.le_refl _
  | succ j ih =>
    by_cases e : i = j + 1
    · rw [e]; exact Int.le_refl _
    · have := ih (by omega) (by omega)
      have := h j (by omega)
      rw [psum_succ]; omega
theorem psum_shift {g : Nat → Int} {i : Nat} : ∀ k, (lst k fun m => g (i + m)).sum = psum g (i + k) - psum g i
  | 0 => by simp
  | k + 1 => by
    have := psum_shift (g := g) (i := i) k
    rw [lst_succ, List.sum_append, this, show i + (k + 1) = i + k + 1 by omega, psum_succ]
    simp
    omega
theorem cut_lst {i j : Nat} (hi : i ≤ j) (hj : j ≤ n) : cut (lst n p) (some (i : Int)) (some (j : Int)) = lst (j - i) fun k => p (i + k) := by
  rw [cut_mid (by simp; omega) (by simp; omega), lst_drop, lst_take (by omega)]
theorem cut_gt {i j : Nat} (hi : j ≤ i) (hj : i ≤ n) : cut (lst n p) (some (i : Int)) (some (j : Int)) = [] := by
  rw [cut_mid (by simp; omega) (by simp; omega), show j - i = 0 by omega]
  simp
theorem cut_len {xs : List α} {lo hi : Option Int} : (cut xs lo hi).length ≤ xs.length := by
  unfold cut
  simp
  omega
end
end DL

open PySem PySem.Spec L2 DL
namespace K

def top (i : Nat) : Stmt := PySem.Challenge.pw_boxharbour_k20_whole_zones.main.body.getD i (.Pass ⟨0, 0, 0, 0⟩)

structure Txt (mg : Str → Option Value) : Prop where
  n_abs : mg "abs" = none
  n_all : mg "all" = none
  n_bool : mg "bool" = none
  n_dict : mg "dict" = none
  n_enumerate : mg "enumerate" = none
  n_int : mg "int" = none
  n_isinstance : mg "isinstance" = none
  n_len : mg "len" = none
  n_list : mg "list" = none
  n_max : mg "max" = none
  n_min : mg "min" = none
  n_range : mg "range" = none
  n_str : mg "str" = none
  n_sum : mg "sum" = none
  n_tuple : mg "tuple" = none
def cm0 : Str → Addr := fun _ => 0
section
variable {Γ : Gm} {P : Program} {w : World} {mg : Str → Option Value} {base : Heap}

abbrev s__law_refused : Stmt := top 28
theorem sc__law_refused : FnScope ["ask", "where", "e"] ["ask", "where"] (defScope s__law_refused) := ⟨rfl, rfl, rfl, by decide +kernel, rfl, by decide +kernel, by decide +kernel⟩
theorem g__law_refused {K : PySem.W.Frag} {mg : Str → Option Value} {C Hb c1 c2 c3 c4 : Addr} (T : RefTxt K mg C Hb c1 c2 c3 c4) (X : Cx) (g : Addr) (cdg : Value) (q : Str) (eK : X.K = K) (em : X.mg = mg) : GivesR X ["ask", "where", "e"] "_law_refused" (defScope s__law_refused) g cdg (defBody s__law_refused) "ask" q (TRef C) := by
  subst eK em
  intro f c' s H Q tl z act hc h
  refine ⟨_, pss_cons (ps_try_as (X := (cxOf C8.CX0 X.prog X.w X.K X.mg X.base ["ask", "where", "e"] "_law_refused" (defScope s__law_refused) g cdg X.A X.stack s H C8.E0).nox) (i := 2) (c := .ref Hb)
    (tb := fun W D σ H => σ[0]? = some (some (.ref f)) ∧ H c' = some (LamX.CodeO c' q) ∧ tl (WE W σ) H fun _ H' => D.nx σ H')
    (ts := fun a cls d D σ H => ∃ dd, cls = .ref C ∧ d = some dd ∧ tRefS X.K C c1 c2 c3 c4 a dd D σ H) (Wout := fun _ _ _ _ => False) rfl rfl sc__law_refused.nd rfl rfl ⟨rfl, by decide, Or.inl T.gH⟩ LamX.takes0 (fun W pn xe tk _ => ?_) (fun a oe cls d pn hz hf => ?_)) (pss_one (ps_ret pe_bl)), ?_⟩
  · refine ⟨fun pins s' σ H' D I h' => ?_⟩
    exact (pss_one (ps_expr (act W pn xe _ _ tk))).run pins s' σ H' D I h'
  · refine ⟨fun pins s' σ H' D I h' => ?_⟩
    obtain ⟨dd, rfl, rfl, h'⟩ := h'
    have ic : ∀ {x : Str} {b : Addr} {p1 p2 : Pos}, X.mg x = some (.ref b) → Gl (cxOf C8.CX0 X.prog X.w X.K X.mg X.base ["ask", "where", "e"] "_law_refused" (defScope s__law_refused) g cdg X.A X.stack s H C8.E0).nox x → (x == ("__debug__" : Str)) = false → PA ((cxOf C8.CX0 X.prog X.w X.K X.mg X.base ["ask", "where", "e"] "_law_refused" (defScope s__law_refused) g cdg X.A X.stack s H C8.E0).nox.suite a ((a, oe) :: pn)) [.Name "e" p1, .Name x p2] (tCons (tVar 2) (tCons (tC (.ref b)) tNil)) := fun hm hg hd => pa_cons (pv 2) (pa_cons (pe_glob hg hm rfl hd) pa_nil)
    have wh : ∀ {p1 p2 : Pos}, PE ((cxOf C8.CX0 X.prog X.w X.K X.mg X.base ["ask", "where", "e"] "_law_refused" (defScope s__law_refused) g cdg X.A X.stack s H C8.E0).nox.suite a ((a, oe) :: pn)) (.Attribute (.Name "e" p1) "where" p2) (tXf a (.ref C) (some dd) C "where" (tVar 2)) := pe_xf T.xf T.noW hz hf (pv 2)
    have isx := call_isX (X := (cxOf C8.CX0 X.prog X.w X.K X.mg X.base ["ask", "where", "e"] "_law_refused" (defScope s__law_refused) g cdg X.A X.stack s H C8.E0).nox) (pn := pn) (a := a) T.ec hz hf
    refine PSs.run (X := (cxOf C8.CX0 X.prog X.w X.K X.mg X.base ["ask", "where", "e"] "_law_refused" (defScope s__law_refused) g cdg X.A X.stack s H C8.E0).nox.suite a ((a, oe) :: pn)) (t := tRefS X.K C c1 c2 c3 c4 a dd) ?_ pins s' σ H' D I h'
    exact (pss_cons (ps_if (PW.pt (pw_or (pt_not (pt_val (pe_callB isx rfl T.gI (by decide +kernel) (pa_cons (pv 2) (pa_cons (pe_bltn (v := .ty "ValueError") rfl T.gV (by decide +kernel) rfl) pa_nil)))))
      (pw_or1 (pt_not (pt_val (pe_callB isx rfl T.gI (by decide +kernel) (ic T.gC rfl (by decide)))))))) (pss_one (ps_ret pe_bl)) pss_nil)
      (pss_cons (ps_if (PW.pt (pw_or (pt_val (pe_callB isx rfl T.gI (by decide +kernel) (ic T.g1 rfl (by decide)))) (pw_or (pt_val (pe_callB isx rfl T.gI (by decide +kernel) (ic T.g2 rfl (by decide))))
        (pw_or (pt_val (pe_callB isx rfl T.gI (by decide +kernel) (ic T.g3 rfl (by decide)))) (pw_or1 (pt_val (pe_callB isx rfl T.gI (by decide +kernel) (ic T.g4 rfl (by decide))))))))) (pss_one (ps_ret pe_bl)) pss_nil)
      (pss_one (ps_ret (pe_and (pe_callB call_isi rfl T.gI (by decide +kernel) (pa_cons wh (pa_cons (pe_bltn (v := .ty "str") rfl T.gS (by decide +kernel) rfl) pa_nil))) (pe_one (pe_cmpR op_eq wh (pv 1) (nomark _))))))))
  · refine ⟨rfl, hc, h _ fun cls dx H' ⟨dd, z', e1, e2, hd, hq⟩ => ?_⟩
    subst e1 e2
    exact ⟨true, T.ex, fun _ a ha => ⟨dd, rfl, rfl, tRefS_ok T rfl rfl hd hq⟩, fun z => nomatch z⟩

abbrev s_check : Stmt := top 8
theorem sc_check : FnScope ["ok", "where"] ["ok", "where"] (defScope s_check) := ⟨rfl, rfl, rfl, by decide +kernel, rfl, by decide +kernel, by decide +kernel⟩
def b_check : Sm := (sIf (eB (pNot (pTst (pVar 0))))
  (sRaise "BadValue" "where" (pVar 1))
  sNil)
def G_check : Gf := bodyG [false, false] 0 b_check
theorem f_check {f : Addr} {fd : FuncData} (F : Fun Γ.K "check" "check" s_check f fd) (hb : Binds Γ.K fd ["ok", "where"] []) (hm : mg "check" = some (.ref f)) (T : Txt mg) (xc_BadValue : PySem.XcM.XcTxt P Γ.K mg "BadValue" "where" (Γ.cm "BadValue")) : FnD P w Γ.K mg base Γ 2 "check" [false, false] 2 G_check := by
  refine fnD_mk (N := ["ok", "where"]) (ps := ["ok", "where"]) (n := 0) (mu := [false, false]) F sc_check rfl rfl hb hm fun cdv A outer s H E hr => ?_
  have S := sc_check
  have hu := hr.units
  have hK : Γ.K = Γ.K := rfl
  have tk := takes_of (X := cxOf (L2.CX P w) P w Γ.K mg base ["ok", "where"] "check" (defScope s_check) f cdv A outer s H E) (E := E) rfl rfl rfl rfl
  exact (rs_one (rs_if (re_b (rt_not (rt_val rp_var)))
  (rs_one (rs_raise rfl xc_BadValue rfl hr tk rp_var))
  rs_nil))

abbrev s_in_range : Stmt := top 9
theorem sc_in_range : FnScope ["n", "low", "high"] ["n", "low", "high"] (defScope s_in_range) := ⟨rfl, rfl, rfl, by decide +kernel, rfl, by decide +kernel, by decide +kernel⟩
def b_in_range : Sm := (sRet (eP (pChain iLe iLe (pVar 1) (pVar 0) (pVar 2))))
def G_in_range : Gf := bodyG [false, false, false] 0 b_in_range
theorem f_in_range {f : Addr} {fd : FuncData} (F : Fun Γ.K "in_range" "in_range" s_in_range f fd) (hb : Binds Γ.K fd ["n", "low", "high"] []) (hm : mg "in_range" = some (.ref f)) (T : Txt mg) : FnD P w Γ.K mg base Γ 2 "in_range" [false, false, false] 3 G_in_range := by
  refine fnD_mk (N := ["n", "low", "high"]) (ps := ["n", "low", "high"]) (n := 0) (mu := [false, false, false]) F sc_in_range rfl rfl hb hm fun cdv A outer s H E hr => ?_
  have S := sc_in_range
  have hu := hr.units
  have hK : Γ.K = Γ.K := rfl
  have tk := takes_of (X := cxOf (L2.CX P w) P w Γ.K mg base ["n", "low", "high"] "in_range" (defScope s_in_range) f cdv A outer s H E) (E := E) rfl rfl rfl rfl
  exact (rs_one (rs_ret (re_p (rp_chain ro_le ro_le rp_var rp_var rp_var))))

abbrev s_all_in_range : Stmt := top 10
theorem sc_all_in_range : FnScope ["numbers", "low", "high", "n"] ["numbers", "low", "high"] (defScope s_all_in_range) := ⟨rfl, rfl, rfl, by decide +kernel, rfl, by decide +kernel, by decide +kernel⟩
def b_all_in_range : Sm := (sRet (eOpN fAll (eCons (eLc (iLst (eP (pVar 0))) [3] (tgN 3) eT (eP (pChain iLe iLe (pVar 1) (pVar 3) (pVar 2)))) eNil)))
def G_all_in_range : Gf := bodyG [false, false, false] 1 b_all_in_range
theorem f_all_in_range {f : Addr} {fd : FuncData} (F : Fun Γ.K "all_in_range" "all_in_range" s_all_in_range f fd) (hb : Binds Γ.K fd ["numbers", "low", "high"] []) (hm : mg "all_in_range" = some (.ref f)) (T : Txt mg) : FnD P w Γ.K mg base Γ 2 "all_in_range" [false, false, false] 3 G_all_in_range := by
  refine fnD_mk (N := ["numbers", "low", "high", "n"]) (ps := ["numbers", "low", "high"]) (n := 1) (mu := [false, false, false]) F sc_all_in_range rfl rfl hb hm fun cdv A outer s H E hr => ?_
  have S := sc_all_in_range
  have hu := hr.units
  have hK : Γ.K = Γ.K := rfl
  have tk := takes_of (X := cxOf (L2.CX P w) P w Γ.K mg base ["numbers", "low", "high", "n"] "all_in_range" (defScope s_all_in_range) f cdv A outer s H E) (E := E) rfl rfl rfl rfl
  exact (rs_one (rs_ret (re_callB (rc_all rfl hK) T.n_all (re_cons (re_lc (own := [(Str.ofString "n", 3)]) rfl S.nd (ri_lst hK (re_p rp_var)) (blkOk_by (own := [(Str.ofString "n", 3)]) (by show blkC [Str.ofString "numbers", Str.ofString "low", Str.ofString "high", Str.ofString "n"] (defScope s_all_in_range) _ _ = true; decide +kernel)) (gName_ok 3) (by decide) (fun _ _ _ _ _ => pg_name (i := 3) S.nd rfl (Or.inl rfl)) (fun _ _ _ _ _ => rts_nil) (fun _ _ _ _ _ => (re_p (rp_chain ro_le ro_le rp_var rp_var rp_var)))) re_nil))))

abbrev s_check_loads : Stmt := top 12
theorem sc_check_loads : FnScope ["loads", "cranes"] ["loads", "cranes"] (defScope s_check_loads) := ⟨rfl, rfl, rfl, by decide +kernel, rfl, by decide +kernel, by decide +kernel⟩
def b_check_loads : Sm := (sSeq (sExpr (eP (pCall 2 G_check (pCons (pAndV (pChain iLe iLe (pC (.int 1)) (pOpN fLen (pCons (pVar 0) pNil)) (pC (.int 12))) (pCall 3 G_all_in_range (pCons (pVar 0) (pCons (pC (.int 0)) (pCons (pC (.int 99)) pNil))))) (pCons (pC (.str (Str.ofString "loads"))) pNil)))))
  (sExpr (eP (pCall 2 G_check (pCons (pCall 3 G_in_range (pCons (pVar 1) (pCons (pC (.int 1)) (pCons (pC (.int 4)) pNil)))) (pCons (pC (.str (Str.ofString "cranes"))) pNil))))))
def G_check_loads : Gf := bodyG [false, false] 0 b_check_loads
theorem f_check_loads {f : Addr} {fd : FuncData} (F : Fun Γ.K "check_loads" "check_loads" s_check_loads f fd) (hb : Binds Γ.K fd ["loads", "cranes"] []) (hm : mg "check_loads" = some (.ref f)) (T : Txt mg) (h_all_in_range : FnD P w Γ.K mg base Γ 2 "all_in_range" [false, false, false] 3 G_all_in_range) (h_check : FnD P w Γ.K mg base Γ 2 "check" [false, false] 2 G_check) (h_in_range : FnD P w Γ.K mg base Γ 2 "in_range" [false, false, false] 3 G_in_range) : FnD P w Γ.K mg base Γ 3 "check_loads" [false, false] 2 G_check_loads := by
  refine fnD_mk (N := ["loads", "cranes"]) (ps := ["loads", "cranes"]) (n := 0) (mu := [false, false]) F sc_check_loads rfl rfl hb hm fun cdv A outer s H E hr => ?_
  have S := sc_check_loads
  have hu := hr.units
  have hK : Γ.K = Γ.K := rfl
  have h_all_in_range := h_all_in_range.mono (k := 2) (by decide)
  have h_check := h_check.mono (k := 2) (by decide)
  have h_in_range := h_in_range.mono (k := 2) (by decide)
  have tk := takes_of (X := cxOf (L2.CX P w) P w Γ.K mg base ["loads", "cranes"] "check_loads" (defScope s_check_loads) f cdv A outer s H E) (E := E) rfl rfl rfl rfl
  exact (rs_cons (rs_expr (re_p (rp_call h_check hr tk rfl (rp_cons (rp_and (rp_chain ro_le ro_le rp_int (rp_callB (rc_len hK) T.n_len (rp_cons rp_var rp_nil)) rp_int) (rp_one (rp_call h_all_in_range hr tk rfl (rp_cons rp_var (rp_cons rp_int (rp_cons rp_int rp_nil)))))) (rp_cons rp_str rp_nil)))))
  (rs_one (rs_expr (re_p (rp_call h_check hr tk rfl (rp_cons (rp_call h_in_range hr tk rfl (rp_cons rp_var (rp_cons rp_int (rp_cons rp_int rp_nil)))) (rp_cons rp_str rp_nil)))))))

abbrev s_stretches : Stmt := top 13
theorem sc_stretches : FnScope ["loads", "most", "rows", "first", "total", "at", "load"] ["loads", "most"] (defScope s_stretches) := ⟨rfl, rfl, rfl, by decide +kernel, rfl, by decide +kernel, by decide +kernel⟩
def b_stretches : Sm := (sSeq (sSet 2 (eP (pOpN fLst pNil)))
  (sSeq (sSet 3 (eShr (eP (pC (.int 0)))))
  (sSeq (sSet 4 (eShr (eP (pC (.int 0)))))
  (sSeq (sWipe [5, 6] (sFor (iEnu (eP (pVar 0))) (tgT [(tgN 5), (tgN 6)])
  (sWipA [5, 6] (sSeq (sIf (eB (pTst (pOp2 iGt (pOp2 dAdd (pVar 4) (pVar 6)) (pVar 1))))
  (sSeq (sExpr (eMut 2 gApp (eCons (eP (pOpN fTup (pCons (pVar 3) (pCons (pOp2 iSub (pVar 5) (pC (.int 1))) pNil)))) eNil)))
  (sSeq (sSet 3 (eShr (eP (pVar 5))))
  (sSet 4 (eShr (eP (pC (.int 0)))))))
  sNil)
  (sAug 4 iAdd (eP (pVar 6)))))))
  (sSeq (sExpr (eMut 2 gApp (eCons (eP (pOpN fTup (pCons (pVar 3) (pCons (pOp2 iSub (pOpN fLen (pCons (pVar 0) pNil)) (pC (.int 1))) pNil)))) eNil)))
  (sRet (eMove 2)))))))
def G_stretches : Gf := bodyG [false, false] 5 b_stretches
theorem f_stretches {f : Addr} {fd : FuncData} (F : Fun Γ.K "stretches" "stretches" s_stretches f fd) (hb : Binds Γ.K fd ["loads", "most"] []) (hm : mg "stretches" = some (.ref f)) (T : Txt mg) : FnD P w Γ.K mg base Γ 2 "stretches" [false, false] 2 G_stretches := by
  refine fnD_mk (N := ["loads", "most", "rows", "first", "total", "at", "load"]) (ps := ["loads", "most"]) (n := 5) (mu := [false, false]) F sc_stretches rfl rfl hb hm fun cdv A outer s H E hr => ?_
  have S := sc_stretches
  have hu := hr.units
  have hK : Γ.K = Γ.K := rfl
  have tk := takes_of (X := cxOf (L2.CX P w) P w Γ.K mg base ["loads", "most", "rows", "first", "total", "at", "load"] "stretches" (defScope s_stretches) f cdv A outer s H E) (E := E) rfl rfl rfl rfl
  exact (rs_cons (rs_set (i := 2) S.nd (by first | exact Or.inl rfl | exact Or.inr rfl) (re_p (rp_lst rp_nil)))
  (rs_cons (rs_set (i := 3) S.nd (by first | exact Or.inl rfl | exact Or.inr rfl) (re_shr (re_p rp_int)))
  (rs_cons (rs_set (i := 4) S.nd (by first | exact Or.inl rfl | exact Or.inr rfl) (re_shr (re_p rp_int)))
  (rs_cons (rs_wipe [5, 6] (rs_for rfl (passes_of rfl) (ri_enum hK T.n_enumerate (re_p rp_var)) (rg_tup rfl (rgs_cons (rg_name (i := 5) S.nd (by first | exact Or.inl rfl | exact Or.inr rfl)) (rgs_cons (rg_name (i := 6) S.nd (by first | exact Or.inl rfl | exact Or.inr rfl)) rgs_nil)) hK)
  (rss_wipA [5, 6] (rs_cons (rs_if (re_b (rt_cmp ro_gt (rp_op2 (ro_Add hK) rp_var rp_var) rp_var))
  (rs_cons (rs_expr (re_mut hK PySem.F.slot_list_append PySem.F.type_list_append rm_app (re_cons (re_p (rp_tup (rp_cons rp_var (rp_cons (rp_op2 ro_sub rp_var rp_int) rp_nil)))) re_nil)))
  (rs_cons (rs_set (i := 3) S.nd (by first | exact Or.inl rfl | exact Or.inr rfl) (re_shr (re_p rp_var)))
  (rs_one (rs_set (i := 4) S.nd (by first | exact Or.inl rfl | exact Or.inr rfl) (re_shr (re_p rp_int))))))
  rs_nil)
  (rs_one (rs_aug (i := 4) S.nd (by first | exact Or.inl rfl | exact Or.inr rfl) (re_p rp_var) ro_iadd))))))
  (rs_cons (rs_expr (re_mut hK PySem.F.slot_list_append PySem.F.type_list_append rm_app (re_cons (re_p (rp_tup (rp_cons rp_var (rp_cons (rp_op2 ro_sub (rp_callB (rc_len hK) T.n_len (rp_cons rp_var rp_nil)) rp_int) rp_nil)))) re_nil)))
  (rs_one (rs_ret re_move)))))))

abbrev s_least_most : Stmt := top 14
theorem sc_least_most : FnScope ["loads", "cranes", "low", "high", "middle"] ["loads", "cranes"] (defScope s_least_most) := ⟨rfl, rfl, rfl, by decide +kernel, rfl, by decide +kernel, by decide +kernel⟩
def b_least_most : Sm := (sSeq (sSet 2 (eP (pOpN fMax (pCons (pVar 0) pNil))))
  (sSeq (sSet 3 (eShr (eP (pOpN fSum (pCons (pVar 0) pNil)))))
  (sSeq (sWipe [4] (whileL (eB (pTst (pOp2 iLt (pVar 2) (pVar 3))))
  (sWipA [4] (sSeq (sSet 4 (eShr (eP (pOp2 iDiv (pOp2 dAdd (pVar 2) (pVar 3)) (pC (.int 2))))))
  (sIf (eB (pTst (pOp2 iLe (pOpN fLen (pCons (pCall 2 G_stretches (pCons (pVar 0) (pCons (pVar 4) pNil))) pNil)) (pVar 1))))
  (sSet 3 (eShr (eP (pVar 4))))
  (sSet 2 (eP (pOp2 dAdd (pVar 4) (pC (.int 1)))))))) wfuel))
  (sRet (eMove 2)))))
def G_least_most : Gf := bodyG [false, false] 3 b_least_most
theorem f_least_most {f : Addr} {fd : FuncData} (F : Fun Γ.K "least_most" "least_most" s_least_most f fd) (hb : Binds Γ.K fd ["loads", "cranes"] []) (hm : mg "least_most" = some (.ref f)) (T : Txt mg) (h_stretches : FnD P w Γ.K mg base Γ 2 "stretches" [false, false] 2 G_stretches) : FnD P w Γ.K mg base Γ 3 "least_most" [false, false] 2 G_least_most := by
  refine fnD_mk (N := ["loads", "cranes", "low", "high", "middle"]) (ps := ["loads", "cranes"]) (n := 3) (mu := [false, false]) F sc_least_most rfl rfl hb hm fun cdv A outer s H E hr => ?_
  have S := sc_least_most
  have hu := hr.units
  have hK : Γ.K = Γ.K := rfl
  have h_stretches := h_stretches.mono (k := 2) (by decide)
  have tk := takes_of (X := cxOf (L2.CX P w) P w Γ.K mg base ["loads", "cranes", "low", "high", "middle"] "least_most" (defScope s_least_most) f cdv A outer s H E) (E := E) rfl rfl rfl rfl
  exact (rs_cons (rs_set (i := 2) S.nd (by first | exact Or.inl rfl | exact Or.inr rfl) (re_p (rp_callB (rc_max rfl hK) T.n_max (rp_cons rp_var rp_nil))))
  (rs_cons (rs_set (i := 3) S.nd (by first | exact Or.inl rfl | exact Or.inr rfl) (re_shr (re_p (rp_callB (rc_sum rfl hK) T.n_sum (rp_cons rp_var rp_nil)))))
  (rs_cons (rs_wipe [4] (rs_while wfuel (passes_of rfl) (re_b (rt_cmp ro_lt rp_var rp_var))
  (rss_wipA [4] (rs_cons (rs_set (i := 4) S.nd (by first | exact Or.inl rfl | exact Or.inr rfl) (re_shr (re_p (rp_op2 ro_div (rp_op2 (ro_Add hK) rp_var rp_var) rp_int))))
  (rs_one (rs_if (re_b (rt_cmp ro_le (rp_callB (rc_len hK) T.n_len (rp_cons (rp_call h_stretches hr tk rfl (rp_cons rp_var (rp_cons rp_var rp_nil))) rp_nil)) rp_var))
  (rs_one (rs_set (i := 3) S.nd (by first | exact Or.inl rfl | exact Or.inr rfl) (re_shr (re_p rp_var))))
  (rs_one (rs_set (i := 2) S.nd (by first | exact Or.inl rfl | exact Or.inr rfl) (re_p (rp_op2 (ro_Add hK) rp_var rp_int))))))))))
  (rs_one (rs_ret re_move)))))

abbrev s_place_of_sum : Stmt := top 15
theorem sc_place_of_sum : FnScope ["loads", "first", "most", "place", "total"] ["loads", "first", "most"] (defScope s_place_of_sum) := ⟨rfl, rfl, rfl, by decide +kernel, rfl, by decide +kernel, by decide +kernel⟩
def b_place_of_sum : Sm := (sSeq (sSet 3 (eP (pVar 1)))
  (sSeq (sSet 4 (eShr (eP (pOp2 dIx (pVar 0) (pVar 1)))))
  (sSeq (whileL (eB (pTst (pOp2 iLt (pVar 4) (pVar 2))))
  (sSeq (sAug 3 iAdd (eP (pC (.int 1))))
  (sSet 4 (eShr (eP (pOp2 dAdd (pVar 4) (pOp2 dIx (pVar 0) (pVar 3))))))) wfuel)
  (sRet (eMove 3)))))
def G_place_of_sum : Gf := bodyG [false, false, false] 2 b_place_of_sum
theorem f_place_of_sum {f : Addr} {fd : FuncData} (F : Fun Γ.K "place_of_sum" "place_of_sum" s_place_of_sum f fd) (hb : Binds Γ.K fd ["loads", "first", "most"] []) (hm : mg "place_of_sum" = some (.ref f)) (T : Txt mg) : FnD P w Γ.K mg base Γ 2 "place_of_sum" [false, false, false] 3 G_place_of_sum := by
  refine fnD_mk (N := ["loads", "first", "most", "place", "total"]) (ps := ["loads", "first", "most"]) (n := 2) (mu := [false, false, false]) F sc_place_of_sum rfl rfl hb hm fun cdv A outer s H E hr => ?_
  have S := sc_place_of_sum
  have hu := hr.units
  have hK : Γ.K = Γ.K := rfl
  have tk := takes_of (X := cxOf (L2.CX P w) P w Γ.K mg base ["loads", "first", "most", "place", "total"] "place_of_sum" (defScope s_place_of_sum) f cdv A outer s H E) (E := E) rfl rfl rfl rfl
  exact (rs_cons (rs_set (i := 3) S.nd (by first | exact Or.inl rfl | exact Or.inr rfl) (re_p rp_var))
  (rs_cons (rs_set (i := 4) S.nd (by first | exact Or.inl rfl | exact Or.inr rfl) (re_shr (re_p (rp_ix (ro_ix hK) rp_var rp_var))))
  (rs_cons (rs_while wfuel (passes_of rfl) (re_b (rt_cmp ro_lt rp_var rp_var))
  (rs_cons (rs_aug (i := 3) S.nd (by first | exact Or.inl rfl | exact Or.inr rfl) (re_p rp_int) ro_iadd)
  (rs_one (rs_set (i := 4) S.nd (by first | exact Or.inl rfl | exact Or.inr rfl) (re_shr (re_p (rp_op2 (ro_Add hK) rp_var (rp_ix (ro_ix hK) rp_var rp_var))))))))
  (rs_one (rs_ret re_move)))))

abbrev s_paper_of : Stmt := top 16
theorem sc_paper_of : FnScope ["loads", "cranes", "most", "starts", "_"] ["loads", "cranes", "most"] (defScope s_paper_of) := ⟨rfl, rfl, rfl, by decide +kernel, rfl, by decide +kernel, by decide +kernel⟩
def b_paper_of : Sm := (sSeq (sIf (eB (pTst (pOp2 dIn (pVar 2) (pVar 0))))
  (sRet (eP (pOpN fTup (pCons (pC (.str (Str.ofString "bay"))) (pCons (pMet mIndex (pVar 0) (pCons (pVar 2) pNil)) pNil)))))
  sNil)
  (sSeq (sSet 3 (eP (pOpN fLst (pCons (pC (.int 0)) pNil))))
  (sSeq (sWipe [4] (sFor (iRng1 (eP (pVar 1))) (tgN 4)
  (sWipA [4] (sExpr (eMut 3 gApp (eCons (eP (pCall 3 G_place_of_sum (pCons (pVar 0) (pCons (pOp2 dIx (pVar 3) (pOp1 dNeg (pC (.int 1)))) (pCons (pVar 2) pNil))))) eNil))))))
  (sRet (eOpN fTup (eCons (eP (pC (.str (Str.ofString "starts")))) (eCons (eMove 3) eNil)))))))
def G_paper_of : Gf := bodyG [false, false, false] 2 b_paper_of
theorem f_paper_of {f : Addr} {fd : FuncData} (F : Fun Γ.K "paper_of" "paper_of" s_paper_of f fd) (hb : Binds Γ.K fd ["loads", "cranes", "most"] []) (hm : mg "paper_of" = some (.ref f)) (T : Txt mg) (h_place_of_sum : FnD P w Γ.K mg base Γ 2 "place_of_sum" [false, false, false] 3 G_place_of_sum) : FnD P w Γ.K mg base Γ 3 "paper_of" [false, false, false] 3 G_paper_of := by
  refine fnD_mk (N := ["loads", "cranes", "most", "starts", "_"]) (ps := ["loads", "cranes", "most"]) (n := 2) (mu := [false, false, false]) F sc_paper_of rfl rfl hb hm fun cdv A outer s H E hr => ?_
  have S := sc_paper_of
  have hu := hr.units
  have hK : Γ.K = Γ.K := rfl
  have h_place_of_sum := h_place_of_sum.mono (k := 2) (by decide)
  have tk := takes_of (X := cxOf (L2.CX P w) P w Γ.K mg base ["loads", "cranes", "most", "starts", "_"] "paper_of" (defScope s_paper_of) f cdv A outer s H E) (E := E) rfl rfl rfl rfl
  exact (rs_cons (rs_if (re_b (rt_cmp (ro_in hu hK) rp_var rp_var))
  (rs_one (rs_ret (re_p (rp_tup (rp_cons rp_str (rp_cons (rp_met hK PySem.F.slot_list_index PySem.F.type_list_index (rm_index hK) rp_var (rp_cons rp_var rp_nil)) rp_nil))))))
  rs_nil)
  (rs_cons (rs_set (i := 3) S.nd (by first | exact Or.inl rfl | exact Or.inr rfl) (re_p (rp_lst (rp_cons rp_int rp_nil))))
  (rs_cons (rs_wipe [4] (rs_for rfl (passes_of rfl) (ri_rng1 T.n_range (re_p rp_var)) (rg_name (i := 4) S.nd (by first | exact Or.inl rfl | exact Or.inr rfl))
  (rss_wipA [4] (rs_one (rs_expr (re_mut hK PySem.F.slot_list_append PySem.F.type_list_append rm_app (re_cons (re_p (rp_call h_place_of_sum hr tk rfl (rp_cons rp_var (rp_cons (rp_ix (ro_ix hK) rp_var (rp_un ru_neg rp_int)) (rp_cons rp_var rp_nil))))) re_nil)))))))
  (rs_one (rs_ret (re_tup (re_cons (re_p rp_str) (re_cons re_move re_nil))))))))

abbrev s_zones : Stmt := top 17
theorem sc_zones : FnScope ["loads", "cranes", "most"] ["loads", "cranes"] (defScope s_zones) := ⟨rfl, rfl, rfl, by decide +kernel, rfl, by decide +kernel, by decide +kernel⟩
def b_zones : Sm := (sSeq (sExpr (eP (pCall 2 G_check_loads (pCons (pVar 0) (pCons (pVar 1) pNil)))))
  (sSeq (sSet 2 (eShr (eP (pCall 2 G_least_most (pCons (pVar 0) (pCons (pVar 1) pNil))))))
  (sRet (eP (pOpN fTup (pCons (pVar 2) (pCons (pCall 2 G_stretches (pCons (pVar 0) (pCons (pVar 2) pNil))) (pCons (pCall 3 G_paper_of (pCons (pVar 0) (pCons (pVar 1) (pCons (pVar 2) pNil)))) pNil))))))))
def G_zones : Gf := bodyG [false, false] 1 b_zones
theorem f_zones {f : Addr} {fd : FuncData} (F : Fun Γ.K "zones" "zones" s_zones f fd) (hb : Binds Γ.K fd ["loads", "cranes"] []) (hm : mg "zones" = some (.ref f)) (T : Txt mg) (h_check_loads : FnD P w Γ.K mg base Γ 3 "check_loads" [false, false] 2 G_check_loads) (h_least_most : FnD P w Γ.K mg base Γ 3 "least_most" [false, false] 2 G_least_most) (h_paper_of : FnD P w Γ.K mg base Γ 3 "paper_of" [false, false, false] 3 G_paper_of) (h_stretches : FnD P w Γ.K mg base Γ 2 "stretches" [false, false] 2 G_stretches) : FnD P w Γ.K mg base Γ 4 "zones" [false, false] 2 G_zones := by
  refine fnD_mk (N := ["loads", "cranes", "most"]) (ps := ["loads", "cranes"]) (n := 1) (mu := [false, false]) F sc_zones rfl rfl hb hm fun cdv A outer s H E hr => ?_
  have S := sc_zones
  have hu := hr.units
  have hK : Γ.K = Γ.K := rfl
  have h_check_loads := h_check_loads.mono (k := 3) (by decide)
  have h_least_most := h_least_most.mono (k := 3) (by decide)
  have h_paper_of := h_paper_of.mono (k := 3) (by decide)
  have h_stretches := h_stretches.mono (k := 3) (by decide)
  have tk := takes_of (X := cxOf (L2.CX P w) P w Γ.K mg base ["loads", "cranes", "most"] "zones" (defScope s_zones) f cdv A outer s H E) (E := E) rfl rfl rfl rfl
  exact (rs_cons (rs_expr (re_p (rp_call h_check_loads hr tk rfl (rp_cons rp_var (rp_cons rp_var rp_nil)))))
  (rs_cons (rs_set (i := 2) S.nd (by first | exact Or.inl rfl | exact Or.inr rfl) (re_shr (re_p (rp_call h_least_most hr tk rfl (rp_cons rp_var (rp_cons rp_var rp_nil))))))
  (rs_one (rs_ret (re_p (rp_tup (rp_cons rp_var (rp_cons (rp_call h_stretches hr tk rfl (rp_cons rp_var (rp_cons rp_var rp_nil))) (rp_cons (rp_call h_paper_of hr tk rfl (rp_cons rp_var (rp_cons rp_var (rp_cons rp_var rp_nil)))) rp_nil)))))))))

abbrev s_zones_ok : Stmt := top 18
theorem sc_zones_ok : FnScope ["loads", "cranes", "most", "paper", "word", "told", "at"] ["loads", "cranes", "most", "paper"] (defScope s_zones_ok) := ⟨rfl, rfl, rfl, by decide +kernel, rfl, by decide +kernel, by decide +kernel⟩
def b_zones_ok : Sm := (sSeq (sExpr (eP (pCall 2 G_check_loads (pCons (pVar 0) (pCons (pVar 1) pNil)))))
  (sSeq (sAsg (tgT [(tgN 4), (tgN 5)]) (eShr (eP (pVar 3))))
  (sSeq (sIf (eB (pTst (pOp2 dEq (pVar 4) (pC (.str (Str.ofString "bay"))))))
  (sRet (eP (pAndV (pChain iLe iLt (pC (.int 0)) (pVar 5) (pOpN fLen (pCons (pVar 0) pNil))) (pOp2 iGe (pOp2 dIx (pVar 0) (pVar 5)) (pVar 2)))))
  sNil)
  (sSeq (sIf (eB (pOr (pTst (pOp2 dNe (pVar 4) (pC (.str (Str.ofString "starts"))))) (pTst (pOp2 dNe (pOpN fLen (pCons (pVar 5) pNil)) (pOp2 dAdd (pVar 1) (pC (.int 1)))))))
  (sRet (eP (pC (.bl false))))
  sNil)
  (sSeq (sIf (eB (pOr (pNot (pTst (pCall 3 G_all_in_range (pCons (pVar 5) (pCons (pC (.int 0)) (pCons (pOp2 iSub (pOpN fLen (pCons (pVar 0) pNil)) (pC (.int 1))) pNil)))))) (pTst (pOp2 dNe (pOp2 dIx (pVar 5) (pC (.int 0))) (pC (.int 0))))))
  (sRet (eP (pC (.bl false))))
  sNil)
  (sSeq (sWipe [6] (sFor (iRng1 (eP (pVar 1))) (tgN 6)
  (sWipA [6] (sIf (eB (pOr (pTst (pOp2 iLt (pOp2 dIx (pVar 5) (pOp2 dAdd (pVar 6) (pC (.int 1)))) (pOp2 dIx (pVar 5) (pVar 6)))) (pTst (pOp2 iLt (pOpN fSum (pCons (pSlice (pVar 0) (some (pOp2 dIx (pVar 5) (pVar 6))) (some (pOp2 dAdd (pOp2 dIx (pVar 5) (pOp2 dAdd (pVar 6) (pC (.int 1)))) (pC (.int 1))))) pNil)) (pVar 2)))))
  (sRet (eP (pC (.bl false))))
  sNil))))
  (sRet (eP (pC (.bl true))))))))))
def G_zones_ok : Gf := bodyG [false, false, false, false] 3 b_zones_ok
theorem f_zones_ok {f : Addr} {fd : FuncData} (F : Fun Γ.K "zones_ok" "zones_ok" s_zones_ok f fd) (hb : Binds Γ.K fd ["loads", "cranes", "most", "paper"] []) (hm : mg "zones_ok" = some (.ref f)) (T : Txt mg) (h_all_in_range : FnD P w Γ.K mg base Γ 2 "all_in_range" [false, false, false] 3 G_all_in_range) (h_check_loads : FnD P w Γ.K mg base Γ 3 "check_loads" [false, false] 2 G_check_loads) : FnD P w Γ.K mg base Γ 4 "zones_ok" [false, false, false, false] 4 G_zones_ok := by
  refine fnD_mk (N := ["loads", "cranes", "most", "paper", "word", "told", "at"]) (ps := ["loads", "cranes", "most", "paper"]) (n := 3) (mu := [false, false, false, false]) F sc_zones_ok rfl rfl hb hm fun cdv A outer s H E hr => ?_
  have S := sc_zones_ok
  have hu := hr.units
  have hK : Γ.K = Γ.K := rfl
  have h_all_in_range := h_all_in_range.mono (k := 3) (by decide)
  have h_check_loads := h_check_loads.mono (k := 3) (by decide)
  have tk := takes_of (X := cxOf (L2.CX P w) P w Γ.K mg base ["loads", "cranes", "most", "paper", "word", "told", "at"] "zones_ok" (defScope s_zones_ok) f cdv A outer s H E) (E := E) rfl rfl rfl rfl
  exact (rs_cons (rs_expr (re_p (rp_call h_check_loads hr tk rfl (rp_cons rp_var (rp_cons rp_var rp_nil)))))
  (rs_cons (rs_asg (re_shr (re_p rp_var)) (rg_tup rfl (rgs_cons (rg_name (i := 4) S.nd (by first | exact Or.inl rfl | exact Or.inr rfl)) (rgs_cons (rg_name (i := 5) S.nd (by first | exact Or.inl rfl | exact Or.inr rfl)) rgs_nil)) hK))
  (rs_cons (rs_if (re_b (rt_cmp (ro_eq hu hK) rp_var rp_str))
  (rs_one (rs_ret (re_p (rp_and (rp_chain ro_le ro_lt rp_int rp_var (rp_callB (rc_len hK) T.n_len (rp_cons rp_var rp_nil))) (rp_one (rp_cmp ro_ge (rp_ix (ro_ix hK) rp_var rp_var) rp_var))))))
  rs_nil)
  (rs_cons (rs_if (re_b (PW.pt (rw_or (rt_cmp (ro_ne hu hK) rp_var rp_str) (rw_or1 (rt_cmp (ro_ne hu hK) (rp_callB (rc_len hK) T.n_len (rp_cons rp_var rp_nil)) (rp_op2 (ro_Add hK) rp_var rp_int))))))
  (rs_one (rs_ret (re_p rp_bl)))
  rs_nil)
  (rs_cons (rs_if (re_b (PW.pt (rw_or (rt_not (rt_val (rp_call h_all_in_range hr tk rfl (rp_cons rp_var (rp_cons rp_int (rp_cons (rp_op2 ro_sub (rp_callB (rc_len hK) T.n_len (rp_cons rp_var rp_nil)) rp_int) rp_nil)))))) (rw_or1 (rt_cmp (ro_ne hu hK) (rp_ix (ro_ix hK) rp_var rp_int) rp_int)))))
  (rs_one (rs_ret (re_p rp_bl)))
  rs_nil)
  (rs_cons (rs_wipe [6] (rs_for rfl (passes_of rfl) (ri_rng1 T.n_range (re_p rp_var)) (rg_name (i := 6) S.nd (by first | exact Or.inl rfl | exact Or.inr rfl))
  (rss_wipA [6] (rs_one (rs_if (re_b (PW.pt (rw_or (rt_cmp ro_lt (rp_ix (ro_ix hK) rp_var (rp_op2 (ro_Add hK) rp_var rp_int)) (rp_ix (ro_ix hK) rp_var rp_var)) (rw_or1 (rt_cmp ro_lt (rp_callB (rc_sum rfl hK) T.n_sum (rp_cons (rp_slice hK rp_var (rpo_some (rp_ix (ro_ix hK) rp_var rp_var)) (rpo_some (rp_op2 (ro_Add hK) (rp_ix (ro_ix hK) rp_var (rp_op2 (ro_Add hK) rp_var rp_int)) rp_int))) rp_nil)) rp_var)))))
  (rs_one (rs_ret (re_p rp_bl)))
  rs_nil)))))
  (rs_one (rs_ret (re_p rp_bl)))))))))

abbrev s__law_cell : Stmt := top 20
theorem sc__law_cell : FnScope ["script", "k"] ["script", "k"] (defScope s__law_cell) := ⟨rfl, rfl, rfl, by decide +kernel, rfl, by decide +kernel, by decide +kernel⟩
def b__law_cell : Sm := (sSeq (sIf (eB (pTst (pOp2 iLt (pVar 1) (pOpN fLen (pCons (pVar 0) pNil)))))
  (sRet (eP (pOpN fAbs (pCons (pOpN fInt (pCons (pOp2 dIx (pVar 0) (pVar 1)) pNil)) pNil))))
  sNil)
  (sRet (eP (pC (.int 0)))))
def G__law_cell : Gf := bodyG [false, false] 0 b__law_cell
theorem f__law_cell {f : Addr} {fd : FuncData} (F : Fun Γ.K "_law_cell" "_law_cell" s__law_cell f fd) (hb : Binds Γ.K fd ["script", "k"] []) (hm : mg "_law_cell" = some (.ref f)) (T : Txt mg) : FnD P w Γ.K mg base Γ 2 "_law_cell" [false, false] 2 G__law_cell := by
  refine fnD_mk (N := ["script", "k"]) (ps := ["script", "k"]) (n := 0) (mu := [false, false]) F sc__law_cell rfl rfl hb hm fun cdv A outer s H E hr => ?_
  have S := sc__law_cell
  have hu := hr.units
  have hK : Γ.K = Γ.K := rfl
  have tk := takes_of (X := cxOf (L2.CX P w) P w Γ.K mg base ["script", "k"] "_law_cell" (defScope s__law_cell) f cdv A outer s H E) (E := E) rfl rfl rfl rfl
  exact (rs_cons (rs_if (re_b (rt_cmp ro_lt rp_var (rp_callB (rc_len hK) T.n_len (rp_cons rp_var rp_nil))))
  (rs_one (rs_ret (re_p (rp_callB rc_abs T.n_abs (rp_cons (rp_callT rc_int T.n_int (rp_cons (rp_ix (ro_ix hK) rp_var rp_var) rp_nil)) rp_nil)))))
  rs_nil)
  (rs_one (rs_ret (re_p rp_int))))

abbrev s__law_mixed : Stmt := top 21
theorem sc__law_mixed : FnScope ["seed", "turn", "many", "one", "two", "three"] ["seed", "turn", "many"] (defScope s__law_mixed) := ⟨rfl, rfl, rfl, by decide +kernel, rfl, by decide +kernel, by decide +kernel⟩
def b__law_mixed : Sm := (sSeq (sSet 3 (eShr (eP (pOp2 iMod (pOpN fInt (pCons (pOp2 dAdd (pOp2 dAdd (pOp2 dMul (pVar 0) (pC (.int 48271))) (pOp2 dMul (pVar 1) (pC (.int 69621)))) (pC (.int 40692))) pNil)) (pC (.int 2147483647))))))
  (sSeq (sSet 4 (eShr (eP (pOp2 iMod (pOpN fInt (pCons (pOp2 dAdd (pOp2 dAdd (pOp2 dMul (pVar 3) (pVar 3)) (pOp2 dMul (pVar 1) (pC (.int 16807)))) (pC (.int 7))) pNil)) (pC (.int 2147483629))))))
  (sSeq (sSet 5 (eShr (eP (pOp2 iMod (pOpN fInt (pCons (pOp2 dAdd (pOp2 dAdd (pOp2 dMul (pVar 4) (pVar 4)) (pVar 3)) (pC (.int 3))) pNil)) (pC (.int 2147483587))))))
  (sRet (eP (pOp2 iMod (pOpN fInt (pCons (pOp2 iDiv (pVar 5) (pC (.int 7))) pNil)) (pVar 2)))))))
def G__law_mixed : Gf := bodyG [false, false, false] 3 b__law_mixed
theorem f__law_mixed {f : Addr} {fd : FuncData} (F : Fun Γ.K "_law_mixed" "_law_mixed" s__law_mixed f fd) (hb : Binds Γ.K fd ["seed", "turn", "many"] []) (hm : mg "_law_mixed" = some (.ref f)) (T : Txt mg) : FnD P w Γ.K mg base Γ 2 "_law_mixed" [false, false, false] 3 G__law_mixed := by
  refine fnD_mk (N := ["seed", "turn", "many", "one", "two", "three"]) (ps := ["seed", "turn", "many"]) (n := 3) (mu := [false, false, false]) F sc__law_mixed rfl rfl hb hm fun cdv A outer s H E hr => ?_
  have S := sc__law_mixed
  have hu := hr.units
  have hK : Γ.K = Γ.K := rfl
  have tk := takes_of (X := cxOf (L2.CX P w) P w Γ.K mg base ["seed", "turn", "many", "one", "two", "three"] "_law_mixed" (defScope s__law_mixed) f cdv A outer s H E) (E := E) rfl rfl rfl rfl
  exact (rs_cons (rs_set (i := 3) S.nd (by first | exact Or.inl rfl | exact Or.inr rfl) (re_shr (re_p (rp_op2 ro_mod (rp_callT rc_int T.n_int (rp_cons (rp_op2 (ro_Add hK) (rp_op2 (ro_Add hK) (rp_op2 ro_Mul rp_var rp_int) (rp_op2 ro_Mul rp_var rp_int)) rp_int) rp_nil)) rp_int))))
  (rs_cons (rs_set (i := 4) S.nd (by first | exact Or.inl rfl | exact Or.inr rfl) (re_shr (re_p (rp_op2 ro_mod (rp_callT rc_int T.n_int (rp_cons (rp_op2 (ro_Add hK) (rp_op2 (ro_Add hK) (rp_op2 ro_Mul rp_var rp_var) (rp_op2 ro_Mul rp_var rp_int)) rp_int) rp_nil)) rp_int))))
  (rs_cons (rs_set (i := 5) S.nd (by first | exact Or.inl rfl | exact Or.inr rfl) (re_shr (re_p (rp_op2 ro_mod (rp_callT rc_int T.n_int (rp_cons (rp_op2 (ro_Add hK) (rp_op2 (ro_Add hK) (rp_op2 ro_Mul rp_var rp_var) rp_var) rp_int) rp_nil)) rp_int))))
  (rs_one (rs_ret (re_p (rp_op2 ro_mod (rp_callT rc_int T.n_int (rp_cons (rp_op2 ro_div rp_var rp_int) rp_nil)) rp_var)))))))

abbrev s__law_pool : Stmt := top 22
theorem sc__law_pool : FnScope ["script", "k", "cell"] ["script", "k"] (defScope s__law_pool) := ⟨rfl, rfl, rfl, by decide +kernel, rfl, by decide +kernel, by decide +kernel⟩
def b__law_pool : Sm := (sSeq (sSet 2 (eShr (eP (pCall 2 G__law_cell (pCons (pVar 0) (pCons (pVar 1) pNil))))))
  (sSeq (sIf (eB (pTst (pOp2 iGe (pVar 2) (pOp2 iPow (pC (.int 10)) (pC (.int 18))))))
  (sRet (eP (pOpN fLst (pCons (pOp2 iSub (pVar 2) (pOp2 iPow (pC (.int 10)) (pC (.int 18)))) (pCons (pOp2 iMod (pOpN fInt (pCons (pVar 2) pNil)) (pC (.int 999999937))) (pCons (pC (.int 0)) pNil))))))
  sNil)
  (sRet (eP (pOpN fLst (pCons (pC (.int 0)) (pCons (pOp2 iMod (pOpN fInt (pCons (pOp2 dAdd (pOp2 dMul (pVar 2) (pC (.int 63))) (pVar 1)) pNil)) (pOp2 iPow (pC (.int 10)) (pC (.int 15)))) (pCons (pC (.int 0)) pNil))))))))
def G__law_pool : Gf := bodyG [false, false] 1 b__law_pool
theorem f__law_pool {f : Addr} {fd : FuncData} (F : Fun Γ.K "_law_pool" "_law_pool" s__law_pool f fd) (hb : Binds Γ.K fd ["script", "k"] []) (hm : mg "_law_pool" = some (.ref f)) (T : Txt mg) (h__law_cell : FnD P w Γ.K mg base Γ 2 "_law_cell" [false, false] 2 G__law_cell) : FnD P w Γ.K mg base Γ 3 "_law_pool" [false, false] 2 G__law_pool := by
  refine fnD_mk (N := ["script", "k", "cell"]) (ps := ["script", "k"]) (n := 1) (mu := [false, false]) F sc__law_pool rfl rfl hb hm fun cdv A outer s H E hr => ?_
  have S := sc__law_pool
  have hu := hr.units
  have hK : Γ.K = Γ.K := rfl
  have h__law_cell := h__law_cell.mono (k := 2) (by decide)
  have tk := takes_of (X := cxOf (L2.CX P w) P w Γ.K mg base ["script", "k", "cell"] "_law_pool" (defScope s__law_pool) f cdv A outer s H E) (E := E) rfl rfl rfl rfl
  exact (rs_cons (rs_set (i := 2) S.nd (by first | exact Or.inl rfl | exact Or.inr rfl) (re_shr (re_p (rp_call h__law_cell hr tk rfl (rp_cons rp_var (rp_cons rp_var rp_nil))))))
  (rs_cons (rs_if (re_b (rt_cmp ro_ge rp_var (rp_op2 ro_pow rp_int rp_int)))
  (rs_one (rs_ret (re_p (rp_lst (rp_cons (rp_op2 ro_sub rp_var (rp_op2 ro_pow rp_int rp_int)) (rp_cons (rp_op2 ro_mod (rp_callT rc_int T.n_int (rp_cons rp_var rp_nil)) rp_int) (rp_cons rp_int rp_nil)))))))
  rs_nil)
  (rs_one (rs_ret (re_p (rp_lst (rp_cons rp_int (rp_cons (rp_op2 ro_mod (rp_callT rc_int T.n_int (rp_cons (rp_op2 (ro_Add hK) (rp_op2 ro_Mul rp_var rp_int) rp_var) rp_nil)) (rp_op2 ro_pow rp_int rp_int)) (rp_cons rp_int rp_nil)))))))))

abbrev s__law_draw : Stmt := top 23
theorem sc__law_draw : FnScope ["pool", "many", "told"] ["pool", "many"] (defScope s__law_draw) := ⟨rfl, rfl, rfl, by decide +kernel, rfl, by decide +kernel, by decide +kernel⟩
def b__law_draw : Sm := (sSeq (sWipA [2] (sIf (eB (pTst (pOp2 iGt (pOp2 dIx (pVar 0) (pC (.int 0))) (pC (.int 0)))))
  (sSeq (sSet 2 (eP (pOp2 iMod (pOpN fInt (pCons (pOp2 dIx (pVar 0) (pC (.int 0))) pNil)) (pVar 1))))
  (sSeq (sSub 0 gSetL (eP (pC (.int 0))) (eP (pOp2 iDiv (pOp2 dIx (pVar 0) (pC (.int 0))) (pVar 1))))
  (sRet (eMove 2))))
  sNil))
  (sSeq (sSub 0 gSetL (eP (pC (.int 2))) (eP (pOp2 dAdd (pOp2 dIx (pVar 0) (pC (.int 2))) (pC (.int 1)))))
  (sRet (eP (pCall 3 G__law_mixed (pCons (pOp2 dIx (pVar 0) (pC (.int 1))) (pCons (pOp2 dIx (pVar 0) (pC (.int 2))) (pCons (pVar 1) pNil))))))))
def G__law_draw : Gf := bodyG [true, false] 1 b__law_draw
theorem f__law_draw {f : Addr} {fd : FuncData} (F : Fun Γ.K "_law_draw" "_law_draw" s__law_draw f fd) (hb : Binds Γ.K fd ["pool", "many"] []) (hm : mg "_law_draw" = some (.ref f)) (T : Txt mg) (h__law_mixed : FnD P w Γ.K mg base Γ 2 "_law_mixed" [false, false, false] 3 G__law_mixed) : FnD P w Γ.K mg base Γ 3 "_law_draw" [true, false] 2 G__law_draw := by
  refine fnD_mk (N := ["pool", "many", "told"]) (ps := ["pool", "many"]) (n := 1) (mu := [true, false]) F sc__law_draw rfl rfl hb hm fun cdv A outer s H E hr => ?_
  have S := sc__law_draw
  have hu := hr.units
  have hK : Γ.K = Γ.K := rfl
  have h__law_mixed := h__law_mixed.mono (k := 2) (by decide)
  have tk := takes_of (X := cxOf (L2.CX P w) P w Γ.K mg base ["pool", "many", "told"] "_law_draw" (defScope s__law_draw) f cdv A outer s H E) (E := E) rfl rfl rfl rfl
  exact (rs_cons (rs_wipA [2] (rs_if (re_b (rt_cmp ro_gt (rp_ix (ro_ix hK) rp_var rp_int) rp_int))
  (rs_cons (rs_set (i := 2) S.nd (by first | exact Or.inl rfl | exact Or.inr rfl) (re_p (rp_op2 ro_mod (rp_callT rc_int T.n_int (rp_cons (rp_ix (ro_ix hK) rp_var rp_int) rp_nil)) rp_var)))
  (rs_cons (rs_sub (i := 0) rps_list (re_p (rp_op2 ro_div (rp_ix (ro_ix hK) rp_var rp_int) rp_var)) (re_p rp_int))
  (rs_one (rs_ret re_move))))
  rs_nil))
  (rs_cons (rs_sub (i := 0) rps_list (re_p (rp_op2 (ro_Add hK) (rp_ix (ro_ix hK) rp_var rp_int) rp_int)) (re_p rp_int))
  (rs_one (rs_ret (re_p (rp_call h__law_mixed hr tk rfl (rp_cons (rp_ix (ro_ix hK) rp_var rp_int) (rp_cons (rp_ix (ro_ix hK) rp_var rp_int) (rp_cons rp_var rp_nil)))))))))

abbrev s__law_chance : Stmt := top 24
theorem sc__law_chance : FnScope ["pool", "one", "of"] ["pool", "one", "of"] (defScope s__law_chance) := ⟨rfl, rfl, rfl, by decide +kernel, rfl, by decide +kernel, by decide +kernel⟩
def b__law_chance : Sm := (sRet (eOp2 iLt (eCallM 2 G__law_draw 0 (eCons (eP (pVar 2)) eNil)) (eP (pVar 1))))
def G__law_chance : Gf := bodyG [true, false, false] 0 b__law_chance
theorem f__law_chance {f : Addr} {fd : FuncData} (F : Fun Γ.K "_law_chance" "_law_chance" s__law_chance f fd) (hb : Binds Γ.K fd ["pool", "one", "of"] []) (hm : mg "_law_chance" = some (.ref f)) (T : Txt mg) (h__law_draw : FnD P w Γ.K mg base Γ 3 "_law_draw" [true, false] 2 G__law_draw) : FnD P w Γ.K mg base Γ 4 "_law_chance" [true, false, false] 3 G__law_chance := by
  refine fnD_mk (N := ["pool", "one", "of"]) (ps := ["pool", "one", "of"]) (n := 0) (mu := [true, false, false]) F sc__law_chance rfl rfl hb hm fun cdv A outer s H E hr => ?_
  have S := sc__law_chance
  have hu := hr.units
  have hK : Γ.K = Γ.K := rfl
  have h__law_draw := h__law_draw.mono (k := 3) (by decide)
  have tk := takes_of (X := cxOf (L2.CX P w) P w Γ.K mg base ["pool", "one", "of"] "_law_chance" (defScope s__law_chance) f cdv A outer s H E) (E := E) rfl rfl rfl rfl
  exact (rs_one (rs_ret (re_cmp ro_lt (re_callm (i := 0) h__law_draw hr tk ⟨_, rfl, rfl⟩ (re_cons (re_p rp_var) re_nil)) (re_p rp_var))))

abbrev s__law_pick : Stmt := top 25
theorem sc__law_pick : FnScope ["pool", "xs"] ["pool", "xs"] (defScope s__law_pick) := ⟨rfl, rfl, rfl, by decide +kernel, rfl, by decide +kernel, by decide +kernel⟩
def b__law_pick : Sm := (sRet (eOp2 dIx (eP (pVar 1)) (eCallM 2 G__law_draw 0 (eCons (eP (pOpN fLen (pCons (pVar 1) pNil))) eNil))))
def G__law_pick : Gf := bodyG [true, false] 0 b__law_pick
theorem f__law_pick {f : Addr} {fd : FuncData} (F : Fun Γ.K "_law_pick" "_law_pick" s__law_pick f fd) (hb : Binds Γ.K fd ["pool", "xs"] []) (hm : mg "_law_pick" = some (.ref f)) (T : Txt mg) (h__law_draw : FnD P w Γ.K mg base Γ 3 "_law_draw" [true, false] 2 G__law_draw) : FnD P w Γ.K mg base Γ 4 "_law_pick" [true, false] 2 G__law_pick := by
  refine fnD_mk (N := ["pool", "xs"]) (ps := ["pool", "xs"]) (n := 0) (mu := [true, false]) F sc__law_pick rfl rfl hb hm fun cdv A outer s H E hr => ?_
  have S := sc__law_pick
  have hu := hr.units
  have hK : Γ.K = Γ.K := rfl
  have h__law_draw := h__law_draw.mono (k := 3) (by decide)
  have tk := takes_of (X := cxOf (L2.CX P w) P w Γ.K mg base ["pool", "xs"] "_law_pick" (defScope s__law_pick) f cdv A outer s H E) (E := E) rfl rfl rfl rfl
  exact (rs_one (rs_ret (re_ix (ro_ix hK) (re_p rp_var) (re_callm (i := 0) h__law_draw hr tk ⟨_, rfl, rfl⟩ (re_cons (re_p (rp_callB (rc_len hK) T.n_len (rp_cons rp_var rp_nil))) re_nil)))))

abbrev s__law_same : Stmt := top 26
theorem sc__law_same : FnScope ["got", "due", "key", "at"] ["got", "due"] (defScope s__law_same) := ⟨rfl, rfl, rfl, by decide +kernel, rfl, by decide +kernel, by decide +kernel⟩
def b__law_same (GS : Gf) : Sm := (sSeq (sIf (eB (pTst (pOp2 dIs (pVar 1) (pC .non))))
  (sRet (eP (pOp2 dIs (pVar 0) (pC .non))))
  sNil)
  (sSeq (sIf (eB (pTst (pOp2 dIs (pVar 1) (pC (.bl true)))))
  (sRet (eP (pOp2 dIs (pVar 0) (pC (.bl true)))))
  sNil)
  (sSeq (sIf (eB (pTst (pOp2 dIs (pVar 1) (pC (.bl false)))))
  (sRet (eP (pOp2 dIs (pVar 0) (pC (.bl false)))))
  sNil)
  (sSeq (sIf (eB (pTst (pOp1 (dIsi .intT) (pVar 1))))
  (sRet (eP (pAndV (pOp1 (dIsi .intT) (pVar 0)) (pAndV (pOp1 dNot (pOp1 (dIsi .blT) (pVar 0))) (pOp2 dEq (pVar 0) (pVar 1))))))
  sNil)
  (sSeq (sIf (eB (pTst (pOp1 (dIsi .strT) (pVar 1))))
  (sRet (eP (pAndV (pOp1 (dIsi .strT) (pVar 0)) (pOp2 dEq (pVar 0) (pVar 1)))))
  sNil)
  (sSeq (sIf (eB (pTst (pOp1 (dIsi .dctT) (pVar 1))))
  (sSeq (sIf (eB (pOr (pNot (pTst (pOp1 (dIsi .dctT) (pVar 0)))) (pTst (pOp2 dNe (pOpN fLen (pCons (pVar 0) pNil)) (pOpN fLen (pCons (pVar 1) pNil))))))
  (sRet (eP (pC (.bl false))))
  sNil)
  (sSeq (sFor (iLst (eP (pVar 1))) (tgN 2)
  (sIf (eB (pOr (pTst (pOp2 dNin (pVar 2) (pVar 0))) (pNot (pTst (pCall 2 GS (pCons (pOp2 dIx (pVar 0) (pVar 2)) (pCons (pOp2 dIx (pVar 1) (pVar 2)) pNil)))))))
  (sRet (eP (pC (.bl false))))
  sNil))
  (sRet (eP (pC (.bl true))))))
  sNil)
  (sSeq (sIf (eB (pOr (pTst (pOp2 dNe (pOp1 (dIsi .lstT) (pVar 1)) (pOp1 (dIsi .lstT) (pVar 0)))) (pTst (pOp2 dNe (pOp1 (dIsi .tupT) (pVar 1)) (pOp1 (dIsi .tupT) (pVar 0))))))
  (sRet (eP (pC (.bl false))))
  sNil)
  (sSeq (sIf (eB (pTst (pOp2 dNe (pOpN fLen (pCons (pVar 0) pNil)) (pOpN fLen (pCons (pVar 1) pNil)))))
  (sRet (eP (pC (.bl false))))
  sNil)
  (sSeq (sFor (iRng1 (eP (pOpN fLen (pCons (pVar 1) pNil)))) (tgN 3)
  (sIf (eB (pNot (pTst (pCall 2 GS (pCons (pOp2 dIx (pVar 0) (pVar 3)) (pCons (pOp2 dIx (pVar 1) (pVar 3)) pNil))))))
  (sRet (eP (pC (.bl false))))
  sNil))
  (sRet (eP (pC (.bl true)))))))))))))
def G__law_same : Nat → Gf
  | 0 => bodyG [false, false] 2 sNever
  | m + 1 => bodyG [false, false] 2 (b__law_same (G__law_same m))
theorem f__law_same {f : Addr} {fd : FuncData} (F : Fun Γ.K "_law_same" "_law_same" s__law_same f fd) (hb : Binds Γ.K fd ["got", "due"] []) (hm : mg "_law_same" = some (.ref f)) (T : Txt mg) : ∀ m : Nat, FnD P w Γ.K mg base Γ (2 + m) "_law_same" [false, false] 2 (G__law_same m)
  | 0 => fnD_mk (k := 1) (N := ["got", "due", "key", "at"]) (ps := ["got", "due"]) (n := 2) (mu := [false, false]) F sc__law_same rfl rfl hb hm fun cdv A outer s H E hr => rss_never
  | m + 1 => by
    have h__law_same := f__law_same F hb hm T  m
    refine fnD_mk (k := 2 + m) (N := ["got", "due", "key", "at"]) (ps := ["got", "due"]) (n := 2) (mu := [false, false]) F sc__law_same rfl rfl hb hm fun cdv A outer s H E hr => ?_
    have S := sc__law_same
    have hu := hr.units
    have hK : Γ.K = Γ.K := rfl
    have tk := takes_of (X := cxOf (L2.CX P w) P w Γ.K mg base ["got", "due", "key", "at"] "_law_same" (defScope s__law_same) f cdv A outer s H E) (E := E) rfl rfl rfl rfl
    exact (rs_cons (rs_if (re_b (rt_cmp ro_is rp_var rp_non))
  (rs_one (rs_ret (re_p (rp_cmp ro_is rp_var rp_non))))
  rs_nil)
  (rs_cons (rs_if (re_b (rt_cmp ro_is rp_var rp_bl))
  (rs_one (rs_ret (re_p (rp_cmp ro_is rp_var rp_bl))))
  rs_nil)
  (rs_cons (rs_if (re_b (rt_cmp ro_is rp_var rp_bl))
  (rs_one (rs_ret (re_p (rp_cmp ro_is rp_var rp_bl))))
  rs_nil)
  (rs_cons (rs_if (re_b (rt_val (rp_isi (T := .intT) (by decide) hK T.n_isinstance T.n_int rp_var (by decide +kernel))))
  (rs_one (rs_ret (re_p (rp_and (rp_isi (T := .intT) (by decide) hK T.n_isinstance T.n_int rp_var (by decide +kernel)) (rp_and (rp_not (rp_isi (T := .blT) (by decide) hK T.n_isinstance T.n_bool rp_var (by decide +kernel))) (rp_one (rp_cmp (ro_eq hu hK) rp_var rp_var)))))))
  rs_nil)
  (rs_cons (rs_if (re_b (rt_val (rp_isi (T := .strT) (by decide) hK T.n_isinstance T.n_str rp_var (by decide +kernel))))
  (rs_one (rs_ret (re_p (rp_and (rp_isi (T := .strT) (by decide) hK T.n_isinstance T.n_str rp_var (by decide +kernel)) (rp_one (rp_cmp (ro_eq hu hK) rp_var rp_var))))))
  rs_nil)
  (rs_cons (rs_if (re_b (rt_val (rp_isi (T := .dctT) (by decide) hK T.n_isinstance T.n_dict rp_var (by decide +kernel))))
  (rs_cons (rs_if (re_b (PW.pt (rw_or (rt_not (rt_val (rp_isi (T := .dctT) (by decide) hK T.n_isinstance T.n_dict rp_var (by decide +kernel)))) (rw_or1 (rt_cmp (ro_ne hu hK) (rp_callB (rc_len hK) T.n_len (rp_cons rp_var rp_nil)) (rp_callB (rc_len hK) T.n_len (rp_cons rp_var rp_nil)))))))
  (rs_one (rs_ret (re_p rp_bl)))
  rs_nil)
  (rs_cons (rs_for rfl (passes_of rfl) (ri_lst hK (re_p rp_var)) (rg_name (i := 2) S.nd (by first | exact Or.inl rfl | exact Or.inr rfl))
  (rs_one (rs_if (re_b (PW.pt (rw_or (rt_cmp (ro_nin hu hK) rp_var rp_var) (rw_or1 (rt_not (rt_val (rp_call h__law_same hr tk rfl (rp_cons (rp_ix (ro_ix hK) rp_var rp_var) (rp_cons (rp_ix (ro_ix hK) rp_var rp_var) rp_nil)))))))))
  (rs_one (rs_ret (re_p rp_bl)))
  rs_nil)))
  (rs_one (rs_ret (re_p rp_bl)))))
  rs_nil)
  (rs_cons (rs_if (re_b (PW.pt (rw_or (rt_cmp (ro_ne hu hK) (rp_isi (T := .lstT) (by decide) hK T.n_isinstance T.n_list rp_var (by decide +kernel)) (rp_isi (T := .lstT) (by decide) hK T.n_isinstance T.n_list rp_var (by decide +kernel))) (rw_or1 (rt_cmp (ro_ne hu hK) (rp_isi (T := .tupT) (by decide) hK T.n_isinstance T.n_tuple rp_var (by decide +kernel)) (rp_isi (T := .tupT) (by decide) hK T.n_isinstance T.n_tuple rp_var (by decide +kernel)))))))
  (rs_one (rs_ret (re_p rp_bl)))
  rs_nil)
  (rs_cons (rs_if (re_b (rt_cmp (ro_ne hu hK) (rp_callB (rc_len hK) T.n_len (rp_cons rp_var rp_nil)) (rp_callB (rc_len hK) T.n_len (rp_cons rp_var rp_nil))))
  (rs_one (rs_ret (re_p rp_bl)))
  rs_nil)
  (rs_cons (rs_for rfl (passes_of rfl) (ri_rng1 T.n_range (re_p (rp_callB (rc_len hK) T.n_len (rp_cons rp_var rp_nil)))) (rg_name (i := 3) S.nd (by first | exact Or.inl rfl | exact Or.inr rfl))
  (rs_one (rs_if (re_b (rt_not (rt_val (rp_call h__law_same hr tk rfl (rp_cons (rp_ix (ro_ix hK) rp_var rp_var) (rp_cons (rp_ix (ro_ix hK) rp_var rp_var) rp_nil))))))
  (rs_one (rs_ret (re_p rp_bl)))
  rs_nil)))
  (rs_one (rs_ret (re_p rp_bl))))))))))))

abbrev s__law_copy : Stmt := top 27
theorem sc__law_copy : FnScope ["x", "out", "key", "y"] ["x"] (defScope s__law_copy) := ⟨rfl, rfl, rfl, by decide +kernel, rfl, by decide +kernel, by decide +kernel⟩
def b__law_copy (GS : Gf) : Sm := (sSeq (sIf (eB (pTst (pOp1 (dIsi .lstT) (pVar 0))))
  (sRet (eLc (iLst (eP (pVar 0))) [3] (tgN 3) eT (eP (pCall 1 GS (pCons (pVar 3) pNil)))))
  sNil)
  (sSeq (sIf (eB (pTst (pOp1 (dIsi .tupT) (pVar 0))))
  (sRet (eOpN fTuple (eCons (eLc (iLst (eP (pVar 0))) [3] (tgN 3) eT (eP (pCall 1 GS (pCons (pVar 3) pNil)))) eNil)))
  sNil)
  (sSeq (sIf (eB (pTst (pOp1 (dIsi .dctT) (pVar 0))))
  (sSeq sNever
  (sSeq (sFor (iLst (eP (pVar 0))) (tgN 2)
  (sSub 1 gSetL (eP (pVar 2)) (eP (pCall 1 GS (pCons (pOp2 dIx (pVar 0) (pVar 2)) pNil)))))
  (sRet (eMove 1))))
  sNil)
  (sRet (eP (pVar 0))))))
def G__law_copy : Nat → Gf
  | 0 => bodyG [false] 3 sNever
  | m + 1 => bodyG [false] 3 (b__law_copy (G__law_copy m))
theorem f__law_copy {f : Addr} {fd : FuncData} (F : Fun Γ.K "_law_copy" "_law_copy" s__law_copy f fd) (hb : Binds Γ.K fd ["x"] []) (hm : mg "_law_copy" = some (.ref f)) (T : Txt mg) : ∀ m : Nat, FnD P w Γ.K mg base Γ (2 + m) "_law_copy" [false] 1 (G__law_copy m)
  | 0 => fnD_mk (k := 1) (N := ["x", "out", "key", "y"]) (ps := ["x"]) (n := 3) (mu := [false]) F sc__law_copy rfl rfl hb hm fun cdv A outer s H E hr => rss_never
  | m + 1 => by
    have h__law_copy := f__law_copy F hb hm T  m
    refine fnD_mk (k := 2 + m) (N := ["x", "out", "key", "y"]) (ps := ["x"]) (n := 3) (mu := [false]) F sc__law_copy rfl rfl hb hm fun cdv A outer s H E hr => ?_
    have S := sc__law_copy
    have hu := hr.units
    have hK : Γ.K = Γ.K := rfl
    have tk := takes_of (X := cxOf (L2.CX P w) P w Γ.K mg base ["x", "out", "key", "y"] "_law_copy" (defScope s__law_copy) f cdv A outer s H E) (E := E) rfl rfl rfl rfl
    exact (rs_cons (rs_if (re_b (rt_val (rp_isi (T := .lstT) (by decide) hK T.n_isinstance T.n_list rp_var (by decide +kernel))))
  (rs_one (rs_ret (re_lc (own := [(Str.ofString "y", 3)]) rfl S.nd (ri_lst hK (re_p rp_var)) (blkOk_by (own := [(Str.ofString "y", 3)]) (by show blkC [Str.ofString "x", Str.ofString "out", Str.ofString "key", Str.ofString "y"] (defScope s__law_copy) _ _ = true; decide +kernel)) (gName_ok 3) (by decide) (fun _ _ _ _ _ => pg_name (i := 3) S.nd rfl (Or.inl rfl)) (fun _ _ _ _ _ => rts_nil) (fun _ _ _ _ _ => (re_p (rp_call h__law_copy hr takesW rfl (rp_cons rp_var rp_nil)))))))
  rs_nil)
  (rs_cons (rs_if (re_b (rt_val (rp_isi (T := .tupT) (by decide) hK T.n_isinstance T.n_tuple rp_var (by decide +kernel))))
  (rs_one (rs_ret (re_callT (rc_tuple hK) T.n_tuple (re_cons (re_lc (own := [(Str.ofString "y", 3)]) rfl S.nd (ri_lst hK (re_p rp_var)) (blkOk_by (own := [(Str.ofString "y", 3)]) (by show blkC [Str.ofString "x", Str.ofString "out", Str.ofString "key", Str.ofString "y"] (defScope s__law_copy) _ _ = true; decide +kernel)) (gName_ok 3) (by decide) (fun _ _ _ _ _ => pg_name (i := 3) S.nd rfl (Or.inl rfl)) (fun _ _ _ _ _ => rts_nil) (fun _ _ _ _ _ => (re_p (rp_call h__law_copy hr takesW rfl (rp_cons rp_var rp_nil))))) re_nil))))
  rs_nil)
  (rs_cons (rs_if (re_b (rt_val (rp_isi (T := .dctT) (by decide) hK T.n_isinstance T.n_dict rp_var (by decide +kernel))))
  (rs_cons rs_never
  (rs_cons (rs_for rfl (passes_of rfl) (ri_lst hK (re_p rp_var)) (rg_name (i := 2) S.nd (by first | exact Or.inl rfl | exact Or.inr rfl))
  (rs_one (rs_sub (i := 1) rps_list (re_p (rp_call h__law_copy hr tk rfl (rp_cons (rp_ix (ro_ix hK) rp_var rp_var) rp_nil))) (re_p rp_var))))
  (rs_one (rs_ret re_move))))
  rs_nil)
  (rs_one (rs_ret (re_p rp_var))))))

abbrev s__law_least_most : Stmt := top 29
theorem sc__law_least_most : FnScope ["loads", "cranes", "best_sums", "ends", "cuts", "turn", "longer", "row", "end", "spots", "j"] ["loads", "cranes"] (defScope s__law_least_most) := ⟨rfl, rfl, rfl, by decide +kernel, rfl, by decide +kernel, by decide +kernel⟩
def b__law_least_most : Sm := (sSeq (sSet 2 (eP (pOpN fLst (pCons (pOpN fSum (pCons (pVar 0) pNil)) pNil))))
  (sSeq (sSet 3 (eShr (eP (pLR2 (pC (.int 1)) (pOpN fLen (pCons (pVar 0) pNil))))))
  (sSeq (sSet 4 (eShr (eP (pOpN fLst (pCons (pOpN fLst pNil) pNil)))))
  (sSeq (sWipe [8, 6, 7, 9, 5] (sFor (iRng1 (eP (pOp2 iSub (pVar 1) (pC (.int 1))))) (tgN 5)
  (sWipA [8, 6, 7, 9, 5] (sSeq (sSet 6 (eP (pOpN fLst pNil)))
  (sSeq (sWipe [8, 7] (sFor (iLst (eP (pOpN fList (pCons (pVar 4) pNil)))) (tgN 7)
  (sWipA [8, 7] (sWipe [8] (sFor (iLst (eP (pVar 3))) (tgN 8)
  (sWipA [8] (sIf (eB (pOr (pTst (pOp2 dEq (pOpN fLen (pCons (pVar 7) pNil)) (pC (.int 0)))) (pTst (pOp2 iGt (pVar 8) (pOp2 dIx (pVar 7) (pOp1 dNeg (pC (.int 1))))))))
  (sExpr (eMut 6 gApp (eCons (eP (pOp2 dAdd (pVar 7) (pOpN fLst (pCons (pVar 8) pNil)))) eNil)))
  sNil)))))))
  (sSeq (sFrz [6] (sWipe [7, 9] (sFor (iLst (eP (pVar 6))) (tgN 7)
  (sWipA [7, 9] (sSeq (sSet 9 (eShr (eP (pOp2 dAdd (pOp2 dAdd (pOpN fLst (pCons (pC (.int 0)) pNil)) (pVar 7)) (pOpN fLst (pCons (pOpN fLen (pCons (pVar 0) pNil)) pNil))))))
  (sExpr (eMut 2 gApp (eCons (eOpN fMax (eCons (eLc (iRng1 (eP (pOp2 iSub (pOpN fLen (pCons (pVar 9) pNil)) (pC (.int 1))))) [10] (tgN 10) eT (eP (pOpN fSum (pCons (pSlice (pVar 0) (some (pOp2 dIx (pVar 9) (pVar 10))) (some (pOp2 dIx (pVar 9) (pOp2 dAdd (pVar 10) (pC (.int 1)))))) pNil)))) eNil)) eNil))))))))
  (sSet 4 (eShr (eP (pVar 6))))))))))
  (sFrz [2] (sRet (eP (pOpN fMin (pCons (pVar 2) pNil)))))))))
def G__law_least_most : Gf := bodyG [false, false] 9 b__law_least_most
theorem f__law_least_most {f : Addr} {fd : FuncData} (F : Fun Γ.K "_law_least_most" "_law_least_most" s__law_least_most f fd) (hb : Binds Γ.K fd ["loads", "cranes"] []) (hm : mg "_law_least_most" = some (.ref f)) (T : Txt mg) : FnD P w Γ.K mg base Γ 2 "_law_least_most" [false, false] 2 G__law_least_most := by
  refine fnD_mk (N := ["loads", "cranes", "best_sums", "ends", "cuts", "turn", "longer", "row", "end", "spots", "j"]) (ps := ["loads", "cranes"]) (n := 9) (mu := [false, false]) F sc__law_least_most rfl rfl hb hm fun cdv A outer s H E hr => ?_
  have S := sc__law_least_most
  have hu := hr.units
  have hK : Γ.K = Γ.K := rfl
  have tk := takes_of (X := cxOf (L2.CX P w) P w Γ.K mg base ["loads", "cranes", "best_sums", "ends", "cuts", "turn", "longer", "row", "end", "spots", "j"] "_law_least_most" (defScope s__law_least_most) f cdv A outer s H E) (E := E) rfl rfl rfl rfl
  exact (rs_cons (rs_set (i := 2) S.nd (by first | exact Or.inl rfl | exact Or.inr rfl) (re_p (rp_lst (rp_cons (rp_callB (rc_sum rfl hK) T.n_sum (rp_cons rp_var rp_nil)) rp_nil))))
  (rs_cons (rs_set (i := 3) S.nd (by first | exact Or.inl rfl | exact Or.inr rfl) (re_shr (re_p (rp_lr2 T.n_list T.n_range rp_int (rp_callB (rc_len hK) T.n_len (rp_cons rp_var rp_nil))))))
  (rs_cons (rs_set (i := 4) S.nd (by first | exact Or.inl rfl | exact Or.inr rfl) (re_shr (re_p (rp_lst (rp_cons (rp_lst rp_nil) rp_nil)))))
  (rs_cons (rs_wipe [8, 6, 7, 9, 5] (rs_for rfl (passes_of rfl) (ri_rng1 T.n_range (re_p (rp_op2 ro_sub rp_var rp_int))) (rg_name (i := 5) S.nd (by first | exact Or.inl rfl | exact Or.inr rfl))
  (rss_wipA [8, 6, 7, 9, 5] (rs_cons (rs_set (i := 6) S.nd (by first | exact Or.inl rfl | exact Or.inr rfl) (re_p (rp_lst rp_nil)))
  (rs_cons (rs_wipe [8, 7] (rs_for rfl (passes_of rfl) (ri_lst hK (re_p (rp_callT (rc_list hK) T.n_list (rp_cons rp_var rp_nil)))) (rg_name (i := 7) S.nd (by first | exact Or.inl rfl | exact Or.inr rfl))
  (rss_wipA [8, 7] (rs_one (rs_wipe [8] (rs_for rfl (passes_of rfl) (ri_lst hK (re_p rp_var)) (rg_name (i := 8) S.nd (by first | exact Or.inl rfl | exact Or.inr rfl))
  (rss_wipA [8] (rs_one (rs_if (re_b (PW.pt (rw_or (rt_cmp (ro_eq hu hK) (rp_callB (rc_len hK) T.n_len (rp_cons rp_var rp_nil)) rp_int) (rw_or1 (rt_cmp ro_gt rp_var (rp_ix (ro_ix hK) rp_var (rp_un ru_neg rp_int)))))))
  (rs_one (rs_expr (re_mut hK PySem.F.slot_list_append PySem.F.type_list_append rm_app (re_cons (re_p (rp_op2 (ro_Add hK) rp_var (rp_lst (rp_cons rp_var rp_nil)))) re_nil))))
  rs_nil)))))))))
  (rs_cons (rs_frz [6] (rs_wipe [7, 9] (rs_for rfl (passes_of rfl) (ri_lst hK (re_p rp_var)) (rg_name (i := 7) S.nd (by first | exact Or.inl rfl | exact Or.inr rfl))
  (rss_wipA [7, 9] (rs_cons (rs_set (i := 9) S.nd (by first | exact Or.inl rfl | exact Or.inr rfl) (re_shr (re_p (rp_op2 (ro_Add hK) (rp_op2 (ro_Add hK) (rp_lst (rp_cons rp_int rp_nil)) rp_var) (rp_lst (rp_cons (rp_callB (rc_len hK) T.n_len (rp_cons rp_var rp_nil)) rp_nil))))))
  (rs_one (rs_expr (re_mut hK PySem.F.slot_list_append PySem.F.type_list_append rm_app (re_cons (re_callB (rc_max rfl hK) T.n_max (re_cons (re_lc (own := [(Str.ofString "j", 10)]) rfl S.nd (ri_rng1 T.n_range (re_p (rp_op2 ro_sub (rp_callB (rc_len hK) T.n_len (rp_cons rp_var rp_nil)) rp_int))) (blkOk_by (own := [(Str.ofString "j", 10)]) (by show blkC [Str.ofString "loads", Str.ofString "cranes", Str.ofString "best_sums", Str.ofString "ends", Str.ofString "cuts", Str.ofString "turn", Str.ofString "longer", Str.ofString "row", Str.ofString "end", Str.ofString "spots", Str.ofString "j"] (defScope s__law_least_most) _ _ = true; decide +kernel)) (gName_ok 10) (by decide) (fun _ _ _ _ _ => pg_name (i := 10) S.nd rfl (Or.inl rfl)) (fun _ _ _ _ _ => rts_nil) (fun _ _ _ _ _ => (re_p (rp_callB (rc_sum rfl hK) T.n_sum (rp_cons (rp_slice hK rp_var (rpo_some (rp_ix (ro_ix hK) rp_var rp_var)) (rpo_some (rp_ix (ro_ix hK) rp_var (rp_op2 (ro_Add hK) rp_var rp_int)))) rp_nil))))) re_nil)) re_nil)))))))))
  (rs_one (rs_set (i := 4) S.nd (by first | exact Or.inl rfl | exact Or.inr rfl) (re_shr (re_p rp_var))))))))))
  (rs_one (rs_frz [2] (rs_ret (re_p (rp_callB (rc_min rfl hK) T.n_min (rp_cons rp_var rp_nil))))))))))

abbrev s__law_due : Stmt := top 30
theorem sc__law_due : FnScope ["loads", "cranes", "most", "many", "cuts", "first", "turn", "last", "spots", "spot", "p"] ["loads", "cranes"] (defScope s__law_due) := ⟨rfl, rfl, rfl, by decide +kernel, rfl, by decide +kernel, by decide +kernel⟩
def b__law_due : Sm := (sSeq (sSet 2 (eShr (eP (pCall 2 G__law_least_most (pCons (pVar 0) (pCons (pVar 1) pNil))))))
  (sSeq (sSet 3 (eShr (eP (pOpN fLen (pCons (pVar 0) pNil)))))
  (sSeq (sSet 4 (eP (pOpN fLst pNil)))
  (sSeq (sSet 5 (eShr (eP (pC (.int 0)))))
  (sSeq (sWipe [7, 6] (sFor (iRng1 (eP (pVar 3))) (tgN 6)
  (sWipA [7, 6] (sWipA [7] (sIf (eB (pTst (pOp2 iLt (pVar 5) (pVar 3))))
  (sSeq (sSet 7 (eShr (eOpN fMax (eCons (eLc (iRng2 (eP (pVar 5)) (eP (pVar 3))) [10] (tgN 10) (eB (pTst (pOp2 iLe (pOpN fSum (pCons (pSlice (pVar 0) (some (pVar 5)) (some (pOp2 dAdd (pVar 10) (pC (.int 1))))) pNil)) (pVar 2)))) (eP (pVar 10))) eNil))))
  (sSeq (sExpr (eMut 4 gApp (eCons (eP (pOpN fTup (pCons (pVar 5) (pCons (pVar 7) pNil)))) eNil)))
  (sSet 5 (eShr (eP (pOp2 dAdd (pVar 7) (pC (.int 1))))))))
  sNil)))))
  (sSeq (sFrz [4] (sIf (eB (pTst (pOp2 dIn (pVar 2) (pVar 0))))
  (sRet (eShr (eP (pOpN fTup (pCons (pVar 2) (pCons (pVar 4) (pCons (pOpN fTup (pCons (pC (.str (Str.ofString "bay"))) (pCons (pMet mIndex (pVar 0) (pCons (pVar 2) pNil)) pNil))) pNil)))))))
  sNil))
  (sSeq (sSet 8 (eP (pOpN fLst (pCons (pC (.int 0)) pNil))))
  (sSeq (sWipe [9, 6] (sFor (iRng1 (eP (pVar 1))) (tgN 6)
  (sWipA [9, 6] (sSeq (sSet 9 (eShr (eP (pOp2 dIx (pVar 8) (pVar 6)))))
  (sExpr (eMut 8 gApp (eCons (eOpN fMin (eCons (eLc (iRng2 (eP (pVar 9)) (eP (pVar 3))) [10] (tgN 10) (eB (pTst (pOp2 iGe (pOpN fSum (pCons (pSlice (pVar 0) (some (pVar 9)) (some (pOp2 dAdd (pVar 10) (pC (.int 1))))) pNil)) (pVar 2)))) (eP (pVar 10))) eNil)) eNil)))))))
  (sFrz [8] (sRet (eShr (eP (pOpN fTup (pCons (pVar 2) (pCons (pVar 4) (pCons (pOpN fTup (pCons (pC (.str (Str.ofString "starts"))) (pCons (pVar 8) pNil))) pNil))))))))))))))))
def G__law_due : Gf := bodyG [false, false] 9 b__law_due
theorem f__law_due {f : Addr} {fd : FuncData} (F : Fun Γ.K "_law_due" "_law_due" s__law_due f fd) (hb : Binds Γ.K fd ["loads", "cranes"] []) (hm : mg "_law_due" = some (.ref f)) (T : Txt mg) (h__law_least_most : FnD P w Γ.K mg base Γ 2 "_law_least_most" [false, false] 2 G__law_least_most) : FnD P w Γ.K mg base Γ 3 "_law_due" [false, false] 2 G__law_due := by
  refine fnD_mk (N := ["loads", "cranes", "most", "many", "cuts", "first", "turn", "last", "spots", "spot", "p"]) (ps := ["loads", "cranes"]) (n := 9) (mu := [false, false]) F sc__law_due rfl rfl hb hm fun cdv A outer s H E hr => ?_
  have S := sc__law_due
  have hu := hr.units
  have hK : Γ.K = Γ.K := rfl
  have h__law_least_most := h__law_least_most.mono (k := 2) (by decide)
  have tk := takes_of (X := cxOf (L2.CX P w) P w Γ.K mg base ["loads", "cranes", "most", "many", "cuts", "first", "turn", "last", "spots", "spot", "p"] "_law_due" (defScope s__law_due) f cdv A outer s H E) (E := E) rfl rfl rfl rfl
  exact (rs_cons (rs_set (i := 2) S.nd (by first | exact Or.inl rfl | exact Or.inr rfl) (re_shr (re_p (rp_call h__law_least_most hr tk rfl (rp_cons rp_var (rp_cons rp_var rp_nil))))))
  (rs_cons (rs_set (i := 3) S.nd (by first | exact Or.inl rfl | exact Or.inr rfl) (re_shr (re_p (rp_callB (rc_len hK) T.n_len (rp_cons rp_var rp_nil)))))
  (rs_cons (rs_set (i := 4) S.nd (by first | exact Or.inl rfl | exact Or.inr rfl) (re_p (rp_lst rp_nil)))
  (rs_cons (rs_set (i := 5) S.nd (by first | exact Or.inl rfl | exact Or.inr rfl) (re_shr (re_p rp_int)))
  (rs_cons (rs_wipe [7, 6] (rs_for rfl (passes_of rfl) (ri_rng1 T.n_range (re_p rp_var)) (rg_name (i := 6) S.nd (by first | exact Or.inl rfl | exact Or.inr rfl))
  (rss_wipA [7, 6] (rs_one (rs_wipA [7] (rs_if (re_b (rt_cmp ro_lt rp_var rp_var))
  (rs_cons (rs_set (i := 7) S.nd (by first | exact Or.inl rfl | exact Or.inr rfl) (re_shr (re_callB (rc_max rfl hK) T.n_max (re_cons (re_lc (own := [(Str.ofString "p", 10)]) rfl S.nd (ri_rng2 T.n_range (re_p rp_var) (re_p rp_var)) (blkOk_by (own := [(Str.ofString "p", 10)]) (by show blkC [Str.ofString "loads", Str.ofString "cranes", Str.ofString "most", Str.ofString "many", Str.ofString "cuts", Str.ofString "first", Str.ofString "turn", Str.ofString "last", Str.ofString "spots", Str.ofString "spot", Str.ofString "p"] (defScope s__law_due) _ _ = true; decide +kernel)) (gName_ok 10) (by decide) (fun _ _ _ _ _ => pg_name (i := 10) S.nd rfl (Or.inl rfl)) (fun _ _ _ _ _ => rts_one (re_b (rt_cmp ro_le (rp_callB (rc_sum rfl hK) T.n_sum (rp_cons (rp_slice hK rp_var (rpo_some rp_var) (rpo_some (rp_op2 (ro_Add hK) rp_var rp_int))) rp_nil)) rp_var))) (fun _ _ _ _ _ => (re_p rp_var))) re_nil))))
  (rs_cons (rs_expr (re_mut hK PySem.F.slot_list_append PySem.F.type_list_append rm_app (re_cons (re_p (rp_tup (rp_cons rp_var (rp_cons rp_var rp_nil)))) re_nil)))
  (rs_one (rs_set (i := 5) S.nd (by first | exact Or.inl rfl | exact Or.inr rfl) (re_shr (re_p (rp_op2 (ro_Add hK) rp_var rp_int)))))))
  rs_nil))))))
  (rs_cons (rs_frz [4] (rs_if (re_b (rt_cmp (ro_in hu hK) rp_var rp_var))
  (rs_one (rs_ret (re_shr (re_p (rp_tup (rp_cons rp_var (rp_cons rp_var (rp_cons (rp_tup (rp_cons rp_str (rp_cons (rp_met hK PySem.F.slot_list_index PySem.F.type_list_index (rm_index hK) rp_var (rp_cons rp_var rp_nil)) rp_nil))) rp_nil))))))))
  rs_nil))
  (rs_cons (rs_set (i := 8) S.nd (by first | exact Or.inl rfl | exact Or.inr rfl) (re_p (rp_lst (rp_cons rp_int rp_nil))))
  (rs_cons (rs_wipe [9, 6] (rs_for rfl (passes_of rfl) (ri_rng1 T.n_range (re_p rp_var)) (rg_name (i := 6) S.nd (by first | exact Or.inl rfl | exact Or.inr rfl))
  (rss_wipA [9, 6] (rs_cons (rs_set (i := 9) S.nd (by first | exact Or.inl rfl | exact Or.inr rfl) (re_shr (re_p (rp_ix (ro_ix hK) rp_var rp_var))))
  (rs_one (rs_expr (re_mut hK PySem.F.slot_list_append PySem.F.type_list_append rm_app (re_cons (re_callB (rc_min rfl hK) T.n_min (re_cons (re_lc (own := [(Str.ofString "p", 10)]) rfl S.nd (ri_rng2 T.n_range (re_p rp_var) (re_p rp_var)) (blkOk_by (own := [(Str.ofString "p", 10)]) (by show blkC [Str.ofString "loads", Str.ofString "cranes", Str.ofString "most", Str.ofString "many", Str.ofString "cuts", Str.ofString "first", Str.ofString "turn", Str.ofString "last", Str.ofString "spots", Str.ofString "spot", Str.ofString "p"] (defScope s__law_due) _ _ = true; decide +kernel)) (gName_ok 10) (by decide) (fun _ _ _ _ _ => pg_name (i := 10) S.nd rfl (Or.inl rfl)) (fun _ _ _ _ _ => rts_one (re_b (rt_cmp ro_ge (rp_callB (rc_sum rfl hK) T.n_sum (rp_cons (rp_slice hK rp_var (rpo_some rp_var) (rpo_some (rp_op2 (ro_Add hK) rp_var rp_int))) rp_nil)) rp_var))) (fun _ _ _ _ _ => (re_p rp_var))) re_nil)) re_nil))))))))
  (rs_one (rs_frz [8] (rs_ret (re_shr (re_p (rp_tup (rp_cons rp_var (rp_cons rp_var (rp_cons (rp_tup (rp_cons rp_str (rp_cons rp_var rp_nil))) rp_nil)))))))))))))))))

abbrev s__law_loads : Stmt := top 31
theorem sc__law_loads : FnScope ["pool", "many", "style", "first", "loads", "at"] ["pool"] (defScope s__law_loads) := ⟨rfl, rfl, rfl, by decide +kernel, rfl, by decide +kernel, by decide +kernel⟩
def b__law_loads : Sm := (sSeq (sSet 1 (eShr (eOp2 dAdd (eP (pC (.int 1))) (eCallM 2 G__law_draw 0 (eCons (eP (pC (.int 8))) eNil)))))
  (sSeq (sIf (eTst (eCallM 3 G__law_chance 0 (eCons (eP (pC (.int 1))) (eCons (eP (pC (.int 8))) eNil))))
  (sSet 1 (eShr (eOp2 dAdd (eP (pC (.int 9))) (eCallM 2 G__law_draw 0 (eCons (eP (pC (.int 4))) eNil)))))
  sNil)
  (sSeq (sSet 2 (eShr (eCallM 2 G__law_draw 0 (eCons (eP (pC (.int 4))) eNil))))
  (sSeq (sSet 3 (eShr (eCallM 2 G__law_draw 0 (eCons (eP (pC (.int 100))) eNil))))
  (sSeq (sSet 4 (eP (pOpN fLst pNil)))
  (sSeq (sWipe [5] (sFor (iRng1 (eP (pVar 1))) (tgN 5)
  (sWipA [5] (sIf (eB (pTst (pOp2 dEq (pVar 2) (pC (.int 0)))))
  (sExpr (eMut 4 gApp (eCons (eCallM 2 G__law_draw 0 (eCons (eP (pC (.int 100))) eNil)) eNil)))
  (sIf (eB (pTst (pOp2 dEq (pVar 2) (pC (.int 1)))))
  (sExpr (eMut 4 gApp (eCons (eCallM 2 G__law_draw 0 (eCons (eP (pC (.int 5))) eNil)) eNil)))
  (sIf (eB (pTst (pOp2 dEq (pVar 2) (pC (.int 2)))))
  (sExpr (eMut 4 gApp (eCons (eCallM 2 G__law_pick 0 (eCons (eP (pOpN fLst (pCons (pVar 3) (pCons (pVar 3) (pCons (pVar 3) (pCons (pC (.int 0)) (pCons (pC (.int 99)) pNil))))))) eNil)) eNil)))
  (sExpr (eMut 4 gApp (eCons (eOpN fMax2 (eCons (eP (pC (.int 0))) (eCons (eOp2 iSub (eCallM 2 G__law_draw 0 (eCons (eP (pC (.int 20))) eNil)) (eP (pC (.int 10)))) eNil))) eNil)))))))))
  (sRet (eMove 4))))))))
def G__law_loads : Gf := bodyG [true] 5 b__law_loads
theorem f__law_loads {f : Addr} {fd : FuncData} (F : Fun Γ.K "_law_loads" "_law_loads" s__law_loads f fd) (hb : Binds Γ.K fd ["pool"] []) (hm : mg "_law_loads" = some (.ref f)) (T : Txt mg) (h__law_chance : FnD P w Γ.K mg base Γ 4 "_law_chance" [true, false, false] 3 G__law_chance) (h__law_draw : FnD P w Γ.K mg base Γ 3 "_law_draw" [true, false] 2 G__law_draw) (h__law_pick : FnD P w Γ.K mg base Γ 4 "_law_pick" [true, false] 2 G__law_pick) : FnD P w Γ.K mg base Γ 5 "_law_loads" [true] 1 G__law_loads := by
  refine fnD_mk (N := ["pool", "many", "style", "first", "loads", "at"]) (ps := ["pool"]) (n := 5) (mu := [true]) F sc__law_loads rfl rfl hb hm fun cdv A outer s H E hr => ?_
  have S := sc__law_loads
  have hu := hr.units
  have hK : Γ.K = Γ.K := rfl
  have h__law_chance := h__law_chance.mono (k := 4) (by decide)
  have h__law_draw := h__law_draw.mono (k := 4) (by decide)
  have h__law_pick := h__law_pick.mono (k := 4) (by decide)
  have tk := takes_of (X := cxOf (L2.CX P w) P w Γ.K mg base ["pool", "many", "style", "first", "loads", "at"] "_law_loads" (defScope s__law_loads) f cdv A outer s H E) (E := E) rfl rfl rfl rfl
  exact (rs_cons (rs_set (i := 1) S.nd (by first | exact Or.inl rfl | exact Or.inr rfl) (re_shr (re_op2 (ro_Add hK) (re_p rp_int) (re_callm (i := 0) h__law_draw hr tk ⟨_, rfl, rfl⟩ (re_cons (re_p rp_int) re_nil)))))
  (rs_cons (rs_if (ret_val (re_callm (i := 0) h__law_chance hr tk ⟨_, rfl, rfl⟩ (re_cons (re_p rp_int) (re_cons (re_p rp_int) re_nil))))
  (rs_one (rs_set (i := 1) S.nd (by first | exact Or.inl rfl | exact Or.inr rfl) (re_shr (re_op2 (ro_Add hK) (re_p rp_int) (re_callm (i := 0) h__law_draw hr tk ⟨_, rfl, rfl⟩ (re_cons (re_p rp_int) re_nil))))))
  rs_nil)
  (rs_cons (rs_set (i := 2) S.nd (by first | exact Or.inl rfl | exact Or.inr rfl) (re_shr (re_callm (i := 0) h__law_draw hr tk ⟨_, rfl, rfl⟩ (re_cons (re_p rp_int) re_nil))))
  (rs_cons (rs_set (i := 3) S.nd (by first | exact Or.inl rfl | exact Or.inr rfl) (re_shr (re_callm (i := 0) h__law_draw hr tk ⟨_, rfl, rfl⟩ (re_cons (re_p rp_int) re_nil))))
  (rs_cons (rs_set (i := 4) S.nd (by first | exact Or.inl rfl | exact Or.inr rfl) (re_p (rp_lst rp_nil)))
  (rs_cons (rs_wipe [5] (rs_for rfl (passes_of rfl) (ri_rng1 T.n_range (re_p rp_var)) (rg_name (i := 5) S.nd (by first | exact Or.inl rfl | exact Or.inr rfl))
  (rss_wipA [5] (rs_one (rs_if (re_b (rt_cmp (ro_eq hu hK) rp_var rp_int))
  (rs_one (rs_expr (re_mut hK PySem.F.slot_list_append PySem.F.type_list_append rm_app (re_cons (re_callm (i := 0) h__law_draw hr tk ⟨_, rfl, rfl⟩ (re_cons (re_p rp_int) re_nil)) re_nil))))
  (rs_one (rs_if (re_b (rt_cmp (ro_eq hu hK) rp_var rp_int))
  (rs_one (rs_expr (re_mut hK PySem.F.slot_list_append PySem.F.type_list_append rm_app (re_cons (re_callm (i := 0) h__law_draw hr tk ⟨_, rfl, rfl⟩ (re_cons (re_p rp_int) re_nil)) re_nil))))
  (rs_one (rs_if (re_b (rt_cmp (ro_eq hu hK) rp_var rp_int))
  (rs_one (rs_expr (re_mut hK PySem.F.slot_list_append PySem.F.type_list_append rm_app (re_cons (re_callm (i := 0) h__law_pick hr tk ⟨_, rfl, rfl⟩ (re_cons (re_p (rp_lst (rp_cons rp_var (rp_cons rp_var (rp_cons rp_var (rp_cons rp_int (rp_cons rp_int rp_nil))))))) re_nil)) re_nil))))
  (rs_one (rs_expr (re_mut hK PySem.F.slot_list_append PySem.F.type_list_append rm_app (re_cons (re_callB (rc_max2 rfl) T.n_max (re_cons (re_p rp_int) (re_cons (re_op2 ro_sub (re_callm (i := 0) h__law_draw hr tk ⟨_, rfl, rfl⟩ (re_cons (re_p rp_int) re_nil)) (re_p rp_int)) re_nil))) re_nil)))))))))))))
  (rs_one (rs_ret re_move))))))))

abbrev s__law_parted : Stmt := top 32
theorem sc__law_parted : FnScope ["loads", "cranes", "due", "mine", "turn", "got", "cuts", "spots"] ["loads", "cranes"] (defScope s__law_parted) := ⟨rfl, rfl, rfl, by decide +kernel, rfl, by decide +kernel, by decide +kernel⟩
def b__law_parted : Sm := (sSeq (sSet 2 (eShr (eP (pCall 2 G__law_due (pCons (pVar 0) (pCons (pVar 1) pNil))))))
  (sSeq (sSet 3 (eP (pOpN fList (pCons (pVar 0) pNil))))
  (sSeq (sWipe [6, 5, 7, 4] (sFor (iRng1 (eP (pC (.int 2)))) (tgN 4)
  (sWipA [6, 5, 7, 4] (sSeq (sSet 5 (eP (pCall 2 G_zones (pCons (pVar 3) (pCons (pVar 1) pNil)))))
  (sSeq (sIf (eB (pOr (pNot (pTst (pCall 2 (G__law_same 8) (pCons (pVar 5) (pCons (pVar 2) pNil))))) (pNot (pTst (pCall 2 (G__law_same 8) (pCons (pVar 3) (pCons (pVar 0) pNil)))))))
  (sRet (eP (pC (.bl false))))
  sNil)
  (sSeq (sSet 6 (eTakeP 5 [1]))
  (sSeq (sExpr (eMut 6 gRev eNil))
  (sSeq (sExpr (eMut 6 gApp (eCons (eP (pOpN fTup (pCons (pC (.int 0)) (pCons (pVar 4) pNil)))) eNil)))
  (sWipA [7] (sIf (eB (pTst (pOp2 dEq (pOp2 dIx (pOp2 dIx (pVar 2) (pC (.int 2))) (pC (.int 0))) (pC (.str (Str.ofString "starts"))))))
  (sSeq (sSet 7 (eTakeP 5 [2, 1]))
  (sSeq (sExpr (eMut 7 gApp (eCons (eP (pVar 4)) eNil)))
  (sExpr (eMut 7 gRev eNil))))
  sNil))))))))))
  (sSeq (sIf (eB (pNot (pTst (pCall 2 (G__law_same 8) (pCons (pCall 4 G_zones_ok (pCons (pVar 3) (pCons (pVar 1) (pCons (pOp2 dIx (pVar 2) (pC (.int 0))) (pCons (pCall 1 (G__law_copy 8) (pCons (pOp2 dIx (pVar 2) (pC (.int 2))) pNil)) pNil))))) (pCons (pC (.bl true)) pNil))))))
  (sRet (eP (pC (.bl false))))
  sNil)
  (sSeq (sExpr (eMut 3 gRev eNil))
  (sSeq (sFrz [3] (sSet 2 (eShr (eP (pCall 2 G__law_due (pCons (pOpN fList (pCons (pVar 3) pNil)) (pCons (pVar 1) pNil)))))))
  (sRet (eP (pCall 2 (G__law_same 8) (pCons (pCall 2 G_zones (pCons (pVar 3) (pCons (pVar 1) pNil))) (pCons (pVar 2) pNil)))))))))))
def G__law_parted : Gf := bodyG [false, false] 6 b__law_parted
theorem f__law_parted {f : Addr} {fd : FuncData} (F : Fun Γ.K "_law_parted" "_law_parted" s__law_parted f fd) (hb : Binds Γ.K fd ["loads", "cranes"] []) (hm : mg "_law_parted" = some (.ref f)) (T : Txt mg) (h__law_copy : FnD P w Γ.K mg base Γ 10 "_law_copy" [false] 1 (G__law_copy 8)) (h__law_due : FnD P w Γ.K mg base Γ 3 "_law_due" [false, false] 2 G__law_due) (h__law_same : FnD P w Γ.K mg base Γ 10 "_law_same" [false, false] 2 (G__law_same 8)) (h_zones : FnD P w Γ.K mg base Γ 4 "zones" [false, false] 2 G_zones) (h_zones_ok : FnD P w Γ.K mg base Γ 4 "zones_ok" [false, false, false, false] 4 G_zones_ok) : FnD P w Γ.K mg base Γ 11 "_law_parted" [false, false] 2 G__law_parted := by
  refine fnD_mk (N := ["loads", "cranes", "due", "mine", "turn", "got", "cuts", "spots"]) (ps := ["loads", "cranes"]) (n := 6) (mu := [false, false]) F sc__law_parted rfl rfl hb hm fun cdv A outer s H E hr => ?_
  have S := sc__law_parted
  have hu := hr.units
  have hK : Γ.K = Γ.K := rfl
  have h__law_copy := h__law_copy.mono (k := 10) (by decide)
  have h__law_due := h__law_due.mono (k := 10) (by decide)
  have h__law_same := h__law_same.mono (k := 10) (by decide)
  have h_zones := h_zones.mono (k := 10) (by decide)
  have h_zones_ok := h_zones_ok.mono (k := 10) (by decide)
  have tk := takes_of (X := cxOf (L2.CX P w) P w Γ.K mg base ["loads", "cranes", "due", "mine", "turn", "got", "cuts", "spots"] "_law_parted" (defScope s__law_parted) f cdv A outer s H E) (E := E) rfl rfl rfl rfl
  exact (rs_cons (rs_set (i := 2) S.nd (by first | exact Or.inl rfl | exact Or.inr rfl) (re_shr (re_p (rp_call h__law_due hr tk rfl (rp_cons rp_var (rp_cons rp_var rp_nil))))))
  (rs_cons (rs_set (i := 3) S.nd (by first | exact Or.inl rfl | exact Or.inr rfl) (re_p (rp_callT (rc_list hK) T.n_list (rp_cons rp_var rp_nil))))
  (rs_cons (rs_wipe [6, 5, 7, 4] (rs_for rfl (passes_of rfl) (ri_rng1 T.n_range (re_p rp_int)) (rg_name (i := 4) S.nd (by first | exact Or.inl rfl | exact Or.inr rfl))
  (rss_wipA [6, 5, 7, 4] (rs_cons (rs_set (i := 5) S.nd (by first | exact Or.inl rfl | exact Or.inr rfl) (re_p (rp_call h_zones hr tk rfl (rp_cons rp_var (rp_cons rp_var rp_nil)))))
  (rs_cons (rs_if (re_b (PW.pt (rw_or (rt_not (rt_val (rp_call h__law_same hr tk rfl (rp_cons rp_var (rp_cons rp_var rp_nil))))) (rw_or1 (rt_not (rt_val (rp_call h__law_same hr tk rfl (rp_cons rp_var (rp_cons rp_var rp_nil)))))))))
  (rs_one (rs_ret (re_p rp_bl)))
  rs_nil)
  (rs_cons (rs_set (i := 6) S.nd (by first | exact Or.inl rfl | exact Or.inr rfl) (re_takeP1 (i := 5) hK))
  (rs_cons (rs_expr (re_mut0 hK PySem.F.slot_list_reverse PySem.F.type_list_reverse rm_rev))
  (rs_cons (rs_expr (re_mut hK PySem.F.slot_list_append PySem.F.type_list_append rm_app (re_cons (re_p (rp_tup (rp_cons rp_int (rp_cons rp_var rp_nil)))) re_nil)))
  (rs_one (rs_wipA [7] (rs_if (re_b (rt_cmp (ro_eq hu hK) (rp_ix (ro_ix hK) (rp_ix (ro_ix hK) rp_var rp_int) rp_int) rp_str))
  (rs_cons (rs_set (i := 7) S.nd (by first | exact Or.inl rfl | exact Or.inr rfl) (re_takeP2 (i := 5) hK))
  (rs_cons (rs_expr (re_mut hK PySem.F.slot_list_append PySem.F.type_list_append rm_app (re_cons (re_p rp_var) re_nil)))
  (rs_one (rs_expr (re_mut0 hK PySem.F.slot_list_reverse PySem.F.type_list_reverse rm_rev)))))
  rs_nil)))))))))))
  (rs_cons (rs_if (re_b (rt_not (rt_val (rp_call h__law_same hr tk rfl (rp_cons (rp_call h_zones_ok hr tk rfl (rp_cons rp_var (rp_cons rp_var (rp_cons (rp_ix (ro_ix hK) rp_var rp_int) (rp_cons (rp_call h__law_copy hr tk rfl (rp_cons (rp_ix (ro_ix hK) rp_var rp_int) rp_nil)) rp_nil))))) (rp_cons rp_bl rp_nil))))))
  (rs_one (rs_ret (re_p rp_bl)))
  rs_nil)
  (rs_cons (rs_expr (re_mut0 hK PySem.F.slot_list_reverse PySem.F.type_list_reverse rm_rev))
  (rs_cons (rs_frz [3] (rs_set (i := 2) S.nd (by first | exact Or.inl rfl | exact Or.inr rfl) (re_shr (re_p (rp_call h__law_due hr tk rfl (rp_cons (rp_callT (rc_list hK) T.n_list (rp_cons rp_var rp_nil)) (rp_cons rp_var rp_nil)))))))
  (rs_one (rs_ret (re_p (rp_call h__law_same hr tk rfl (rp_cons (rp_call h_zones hr tk rfl (rp_cons rp_var (rp_cons rp_var rp_nil))) (rp_cons rp_var rp_nil))))))))))))

abbrev s__law_beyond : Stmt := top 33
theorem sc__law_beyond : FnScope ["pool", "loads", "cranes", "at", "way"] ["pool", "loads", "cranes"] (defScope s__law_beyond) := ⟨rfl, rfl, rfl, by decide +kernel, rfl, by decide +kernel, by decide +kernel⟩
def b__law_beyond : Sm := (sSeq (sSet 3 (eShr (eCallM 2 G__law_draw 0 (eCons (eP (pOpN fLen (pCons (pVar 1) pNil))) eNil))))
  (sSeq (sSet 4 (eShr (eCallM 2 G__law_draw 0 (eCons (eP (pC (.int 7))) eNil))))
  (sSeq (sIf (eB (pTst (pOp2 iLt (pVar 4) (pC (.int 2)))))
  (sRet (eShr (eP (pOpN fTup (pCons (pVar 1) (pCons (pOp2 dIx (pOpN fLst (pCons (pC (.int 0)) (pCons (pC (.int 5)) pNil))) (pVar 4)) (pCons (pC (.str (Str.ofString "cranes"))) pNil)))))))
  sNil)
  (sSeq (sIf (eB (pTst (pOp2 dEq (pVar 4) (pC (.int 2)))))
  (sRet (eShr (eP (pOpN fTup (pCons (pOpN fLst pNil) (pCons (pVar 2) (pCons (pC (.str (Str.ofString "loads"))) pNil)))))))
  sNil)
  (sSeq (sIf (eB (pTst (pOp2 dEq (pVar 4) (pC (.int 3)))))
  (sRet (eShr (eP (pOpN fTup (pCons (pOp2 dAdd (pVar 1) (pOp2 dMul (pOpN fLst (pCons (pC (.int 0)) pNil)) (pC (.int 13)))) (pCons (pC (.int 0)) (pCons (pC (.str (Str.ofString "loads"))) pNil)))))))
  sNil)
  (sSeq (sIf (eB (pTst (pOp2 dEq (pVar 4) (pC (.int 4)))))
  (sRet (eShr (eP (pOpN fTup (pCons (pSlice (pOp2 dAdd (pVar 1) (pOp2 dMul (pOpN fLst (pCons (pC (.int 0)) pNil)) (pC (.int 13)))) none (some (pC (.int 13)))) (pCons (pVar 2) (pCons (pC (.str (Str.ofString "loads"))) pNil)))))))
  sNil)
  (sRet (eShr (eP (pOpN fTup (pCons (pOp2 dAdd (pOp2 dAdd (pSlice (pVar 1) none (some (pVar 3))) (pOpN fLst (pCons (pOp2 dIx (pOpN fLst (pCons (pC (.int 100)) (pCons (pOp1 dNeg (pC (.int 1))) pNil))) (pOp2 iSub (pVar 4) (pC (.int 5)))) pNil))) (pSlice (pVar 1) (some (pOp2 dAdd (pVar 3) (pC (.int 1)))) none)) (pCons (pC (.int 5)) (pCons (pC (.str (Str.ofString "loads"))) pNil)))))))))))))
def G__law_beyond : Gf := bodyG [true, false, false] 2 b__law_beyond
theorem f__law_beyond {f : Addr} {fd : FuncData} (F : Fun Γ.K "_law_beyond" "_law_beyond" s__law_beyond f fd) (hb : Binds Γ.K fd ["pool", "loads", "cranes"] []) (hm : mg "_law_beyond" = some (.ref f)) (T : Txt mg) (h__law_draw : FnD P w Γ.K mg base Γ 3 "_law_draw" [true, false] 2 G__law_draw) : FnD P w Γ.K mg base Γ 4 "_law_beyond" [true, false, false] 3 G__law_beyond := by
  refine fnD_mk (N := ["pool", "loads", "cranes", "at", "way"]) (ps := ["pool", "loads", "cranes"]) (n := 2) (mu := [true, false, false]) F sc__law_beyond rfl rfl hb hm fun cdv A outer s H E hr => ?_
  have S := sc__law_beyond
  have hu := hr.units
  have hK : Γ.K = Γ.K := rfl
  have h__law_draw := h__law_draw.mono (k := 3) (by decide)
  have tk := takes_of (X := cxOf (L2.CX P w) P w Γ.K mg base ["pool", "loads", "cranes", "at", "way"] "_law_beyond" (defScope s__law_beyond) f cdv A outer s H E) (E := E) rfl rfl rfl rfl
  exact (rs_cons (rs_set (i := 3) S.nd (by first | exact Or.inl rfl | exact Or.inr rfl) (re_shr (re_callm (i := 0) h__law_draw hr tk ⟨_, rfl, rfl⟩ (re_cons (re_p (rp_callB (rc_len hK) T.n_len (rp_cons rp_var rp_nil))) re_nil))))
  (rs_cons (rs_set (i := 4) S.nd (by first | exact Or.inl rfl | exact Or.inr rfl) (re_shr (re_callm (i := 0) h__law_draw hr tk ⟨_, rfl, rfl⟩ (re_cons (re_p rp_int) re_nil))))
  (rs_cons (rs_if (re_b (rt_cmp ro_lt rp_var rp_int))
  (rs_one (rs_ret (re_shr (re_p (rp_tup (rp_cons rp_var (rp_cons (rp_ix (ro_ix hK) (rp_lst (rp_cons rp_int (rp_cons rp_int rp_nil))) rp_var) (rp_cons rp_str rp_nil))))))))
  rs_nil)
  (rs_cons (rs_if (re_b (rt_cmp (ro_eq hu hK) rp_var rp_int))
  (rs_one (rs_ret (re_shr (re_p (rp_tup (rp_cons (rp_lst rp_nil) (rp_cons rp_var (rp_cons rp_str rp_nil))))))))
  rs_nil)
  (rs_cons (rs_if (re_b (rt_cmp (ro_eq hu hK) rp_var rp_int))
  (rs_one (rs_ret (re_shr (re_p (rp_tup (rp_cons (rp_op2 (ro_Add hK) rp_var (rp_op2 ro_Mul (rp_lst (rp_cons rp_int rp_nil)) rp_int)) (rp_cons rp_int (rp_cons rp_str rp_nil))))))))
  rs_nil)
  (rs_cons (rs_if (re_b (rt_cmp (ro_eq hu hK) rp_var rp_int))
  (rs_one (rs_ret (re_shr (re_p (rp_tup (rp_cons (rp_slice hK (rp_op2 (ro_Add hK) rp_var (rp_op2 ro_Mul (rp_lst (rp_cons rp_int rp_nil)) rp_int)) rpo_none (rpo_some rp_int)) (rp_cons rp_var (rp_cons rp_str rp_nil))))))))
  rs_nil)
  (rs_one (rs_ret (re_shr (re_p (rp_tup (rp_cons (rp_op2 (ro_Add hK) (rp_op2 (ro_Add hK) (rp_slice hK rp_var rpo_none (rpo_some rp_var)) (rp_lst (rp_cons (rp_ix (ro_ix hK) (rp_lst (rp_cons rp_int (rp_cons (rp_un ru_neg rp_int) rp_nil))) (rp_op2 ro_sub rp_var rp_int)) rp_nil))) (rp_slice hK rp_var (rpo_some (rp_op2 (ro_Add hK) rp_var rp_int)) rpo_none)) (rp_cons rp_int (rp_cons rp_str rp_nil))))))))))))))

abbrev s_law : Stmt := top 34
theorem sc_law : FnScope ["script", "turn", "pool", "loads", "cranes", "other", "row"] ["script"] (defScope s_law) := ⟨rfl, rfl, rfl, by decide +kernel, rfl, by decide +kernel, by decide +kernel⟩
def b_law : Sm := (sSeq (sWipe [4, 3, 5, 2, 6, 1] (sFor (iRng1 (eP (pC (.int 2)))) (tgN 1)
  (sWipA [4, 3, 5, 2, 6, 1] (sSeq (sSet 2 (eP (pCall 2 G__law_pool (pCons (pVar 0) (pCons (pVar 1) pNil)))))
  (sSeq (sSet 3 (eShr (eCallM 1 G__law_loads 2 eNil)))
  (sSeq (sSet 4 (eShr (eOp2 dAdd (eP (pC (.int 1))) (eCallM 2 G__law_draw 2 (eCons (eP (pC (.int 4))) eNil)))))
  (sSeq (sIf (eB (pNot (pTst (pCall 2 G__law_parted (pCons (pVar 3) (pCons (pVar 4) pNil))))))
  (sRet (eP (pC (.bl false))))
  sNil)
  (sSeq (sSet 5 (eShr (eOp2 dAdd (eOp2 iMod (eOpN fInt (eCons (eOp2 dAdd (eP (pVar 4)) (eCallM 2 G__law_draw 2 (eCons (eP (pC (.int 3))) eNil))) eNil)) (eP (pC (.int 4)))) (eP (pC (.int 1))))))
  (sSeq (sIf (eB (pNot (pTst (pCall 2 (G__law_same 8) (pCons (pCall 2 G_zones (pCons (pOpN fList (pCons (pVar 3) pNil)) (pCons (pVar 5) pNil))) (pCons (pCall 2 G__law_due (pCons (pVar 3) (pCons (pVar 5) pNil))) pNil))))))
  (sRet (eP (pC (.bl false))))
  sNil)
  (sSeq (sSet 6 (eShr (eCallM 3 G__law_beyond 2 (eCons (eP (pVar 3)) (eCons (eP (pVar 4)) eNil)))))
  (sIf (eB (pNot (pTst (pRefE (pCall 2 G_zones (pCons (pOpN fList (pCons (pOp2 dIx (pVar 6) (pC (.int 0))) pNil)) (pCons (pOp2 dIx (pVar 6) (pC (.int 1))) pNil))) (pOp2 dIx (pVar 6) (pC (.int 2)))))))
  (sRet (eP (pC (.bl false))))
  sNil)))))))))))
  (sRet (eP (pC (.bl true)))))
def G_law : Gf := bodyG [false] 6 b_law
theorem o_law {f c tp : Addr} {oc kV doc pm ct : Value} {od an : Option Addr} {osl : Array (Option Value)} (lk : Γ.K.lookup f = some ⟨oc, od, .func (PySem.W.fnOf "law" "law" (defArgs s_law) (defBody s_law) (defScope s_law) .none kV doc pm an (.ref c) ct), osl⟩) (hcd : PySem.W.codeIn Γ.K (.ref c) "law" = true) (hk : PySem.W.keepIn Γ.K (.ref f) = true) (ld : LamD Γ mg base "law" c tp) (rf : RefD Γ.K mg "_law_refused" "ask" "where" ["ask", "where", "e"] (Γ.cm "BadValue") s__law_refused) (T : Txt mg) (h__law_beyond : FnD P w Γ.K mg base Γ 4 "_law_beyond" [true, false, false] 3 G__law_beyond) (h__law_draw : FnD P w Γ.K mg base Γ 3 "_law_draw" [true, false] 2 G__law_draw) (h__law_due : FnD P w Γ.K mg base Γ 3 "_law_due" [false, false] 2 G__law_due) (h__law_loads : FnD P w Γ.K mg base Γ 5 "_law_loads" [true] 1 G__law_loads) (h__law_parted : FnD P w Γ.K mg base Γ 11 "_law_parted" [false, false] 2 G__law_parted) (h__law_pool : FnD P w Γ.K mg base Γ 3 "_law_pool" [false, false] 2 G__law_pool) (h__law_same : FnD P w Γ.K mg base Γ 10 "_law_same" [false, false] 2 (G__law_same 8)) (h_zones : FnD P w Γ.K mg base Γ 4 "zones" [false, false] 2 G_zones) : FnOk P w Γ.K mg base (L2.CX P w) 12 f (PySem.W.fnOf "law" "law" (defArgs s_law) (defBody s_law) (defScope s_law) .none kV doc pm an (.ref c) ct) ["script"] (spD Γ [false] 1 G_law) := by
  refine fnLO_mk (N := ["script", "turn", "pool", "loads", "cranes", "other", "row"]) (ps := ["script"]) (n := 6) (mu := [false]) lk hcd sc_law rfl rfl fun A outer s H E hr => ?_
  have S := sc_law
  have hu := hr.units
  have hK : Γ.K = Γ.K := rfl
  have h_zones_ := h_zones
  have h__law_beyond := h__law_beyond.mono (k := 11) (by decide)
  have h__law_draw := h__law_draw.mono (k := 11) (by decide)
  have h__law_due := h__law_due.mono (k := 11) (by decide)
  have h__law_loads := h__law_loads.mono (k := 11) (by decide)
  have h__law_parted := h__law_parted.mono (k := 11) (by decide)
  have h__law_pool := h__law_pool.mono (k := 11) (by decide)
  have h__law_same := h__law_same.mono (k := 11) (by decide)
  have h_zones := h_zones.mono (k := 11) (by decide)
  have hl_zones := h_zones_.mono (k := 9) (by decide)
  have tk := takes_of (X := cxOf (L2.CX P w) P w Γ.K mg base ["script", "turn", "pool", "loads", "cranes", "other", "row"] "law" (defScope s_law) f (.ref c) A outer s H E) (E := E) rfl rfl rfl rfl
  exact (rs_cons (rs_wipe [4, 3, 5, 2, 6, 1] (rs_for rfl (passes_of rfl) (ri_rng1 T.n_range (re_p rp_int)) (rg_name (i := 1) S.nd (by first | exact Or.inl rfl | exact Or.inr rfl))
  (rss_wipA [4, 3, 5, 2, 6, 1] (rs_cons (rs_set (i := 2) S.nd (by first | exact Or.inl rfl | exact Or.inr rfl) (re_p (rp_call h__law_pool hr tk rfl (rp_cons rp_var (rp_cons rp_var rp_nil)))))
  (rs_cons (rs_set (i := 3) S.nd (by first | exact Or.inl rfl | exact Or.inr rfl) (re_shr (re_callm (i := 2) h__law_loads hr tk ⟨_, rfl, rfl⟩ re_nil)))
  (rs_cons (rs_set (i := 4) S.nd (by first | exact Or.inl rfl | exact Or.inr rfl) (re_shr (re_op2 (ro_Add hK) (re_p rp_int) (re_callm (i := 2) h__law_draw hr tk ⟨_, rfl, rfl⟩ (re_cons (re_p rp_int) re_nil)))))
  (rs_cons (rs_if (re_b (rt_not (rt_val (rp_call h__law_parted hr tk rfl (rp_cons rp_var (rp_cons rp_var rp_nil))))))
  (rs_one (rs_ret (re_p rp_bl)))
  rs_nil)
  (rs_cons (rs_set (i := 5) S.nd (by first | exact Or.inl rfl | exact Or.inr rfl) (re_shr (re_op2 (ro_Add hK) (re_op2 ro_mod (re_callT rc_int T.n_int (re_cons (re_op2 (ro_Add hK) (re_p rp_var) (re_callm (i := 2) h__law_draw hr tk ⟨_, rfl, rfl⟩ (re_cons (re_p rp_int) re_nil))) re_nil)) (re_p rp_int)) (re_p rp_int))))
  (rs_cons (rs_if (re_b (rt_not (rt_val (rp_call h__law_same hr tk rfl (rp_cons (rp_call h_zones hr tk rfl (rp_cons (rp_callT (rc_list hK) T.n_list (rp_cons rp_var rp_nil)) (rp_cons rp_var rp_nil))) (rp_cons (rp_call h__law_due hr tk rfl (rp_cons rp_var (rp_cons rp_var rp_nil))) rp_nil))))))
  (rs_one (rs_ret (re_p rp_bl)))
  rs_nil)
  (rs_cons (rs_set (i := 6) S.nd (by first | exact Or.inl rfl | exact Or.inr rfl) (re_shr (re_callm (i := 2) h__law_beyond hr tk ⟨_, rfl, rfl⟩ (re_cons (re_p rp_var) (re_cons (re_p rp_var) re_nil)))))
  (rs_one (rs_if (re_b (rt_not (rt_val (rp_refE (k := 9) rf rfl ld rfl rfl hr (fun A outer s H E f c hr tk => by
    have hu := hr.units
    exact (rp_call hl_zones hr tk rfl (rp_cons (rp_callT (rc_list hK) T.n_list (rp_cons (rp_ix (ro_ix hK) rp_var rp_int) rp_nil)) (rp_cons (rp_ix (ro_ix hK) rp_var rp_int) rp_nil)))) (LamX.lamS_by (by show LamX.lamSB (defScope s_law) _ = true; decide +kernel)) (rp_ix (ro_ix hK) rp_var rp_int)))))
  (rs_one (rs_ret (re_p rp_bl)))
  rs_nil))))))))))))
  (rs_one (rs_ret (re_p rp_bl))))

end
end K

namespace K
/-! ### the law's copy -/
section
theorem isi_a1 : dIsi .lstT .non = some (.bl false) := rfl
theorem isi_a2 : dIsi .tupT .non = some (.bl false) := rfl
theorem isi_a3 : dIsi .dctT .non = some (.bl false) := rfl
theorem isi_b1 {b : Bool} : dIsi .lstT (.bl b) = some (.bl false) := rfl
theorem isi_b2 {b : Bool} : dIsi .tupT (.bl b) = some (.bl false) := rfl
theorem isi_b3 {b : Bool} : dIsi .dctT (.bl b) = some (.bl false) := rfl
theorem isi_c1 {b : Int} : dIsi .lstT (.int b) = some (.bl false) := rfl
theorem isi_c2 {b : Int} : dIsi .tupT (.int b) = some (.bl false) := rfl
theorem isi_c3 {b : Int} : dIsi .dctT (.int b) = some (.bl false) := rfl
theorem isi_d1 {b : PySem.Str} : dIsi .lstT (.str b) = some (.bl false) := rfl
theorem isi_d2 {b : PySem.Str} : dIsi .tupT (.str b) = some (.bl false) := rfl
theorem isi_d3 {b : PySem.Str} : dIsi .dctT (.str b) = some (.bl false) := rfl
theorem isi_tt {xs : List D} : dIsi .tupT (.tup xs) = some (.bl true) := rfl
theorem unL_vec {xs : List D} : ((List.range xs.length).map fun k => un (xs.getD k .non)) = unL xs := by
  apply List.ext_getElem?
  intro k
  rw [unL_map]
  by_cases h : k < xs.length <;> simp [h]
theorem tb_ts {d : D} : (d.tag toShr).tag toBor = d.tag toShr := by
  rw [tag_tag]
  congr 1
  funext x
  cases x <;> rfl
theorem ts_ts {d : D} : (d.tag toShr).tag toShr = d.tag toShr := by
  rw [tag_tag]
  congr 1
  funext x
  cases x <;> rfl
theorem tbL_tsL {xs : List D} : D.tagL toBor (D.tagL toShr xs) = D.tagL toShr xs := by
  simp [D.tagL_map, Function.comp_def, tb_ts]
theorem nb_g {g : Fl → Fl} (hg : ∀ f, (g f != .bor) = true) : ∀ (m : Nat) (d : D), pln m d = true → noBor (d.tag g) = true
  | m, .non, h => by simp
  | m, .bl b, h => by simp
  | m, .int b, h => by simp
  | m, .str b, h => by simp
  | m, .hole, h => by cases m <;> simp [pln] at h
  | 0, .lst f xs, h => by simp [pln] at h
  | 0, .tup xs, h => by simp [pln] at h
  | m + 1, .lst f xs, h => by
    rw [pln_lst, Bool.and_eq_true_iff, decide_eq_true_eq, List.all_eq_true] at h
    simp only [tag_lst, noBor_lst, D.tagL_map, List.all_map, Bool.and_eq_true, List.all_eq_true]
    exact ⟨hg f, fun x hx => nb_g hg m x (h.2 x hx)⟩
  | m + 1, .tup xs, h => by
    rw [pln_tup, Bool.and_eq_true_iff, decide_eq_true_eq, List.all_eq_true] at h
    simp only [tag_tup, noBor_tup, D.tagL_map, List.all_map, List.all_eq_true]
    exact fun x hx => nb_g hg m x (h.2 x hx)
  | m, .dik _ _ _, h => by cases m <;> simp [pln] at h
  | m, .dit _ _ _, h => by cases m <;> simp [pln] at h
  | m, .obj _ _ _ _, h => by cases m <;> simp [pln] at h
theorem nb_ts (m : Nat) (d : D) (h : pln m d = true) : noBor (d.tag toShr) = true := nb_g (fun f => by cases f <;> decide) m d h
theorem nb_un (m : Nat) (d : D) (h : pln m d = true) : noBor (un d) = true := nb_g (fun f => by decide) m d h
theorem nbL_ts {m : Nat} {xs : List D} (h : ∀ x ∈ xs, pln m x = true) : ∀ x ∈ D.tagL toShr xs, noBor x = true := by
  intro x hx
  rw [D.tagL_map] at hx
  obtain ⟨y, hy, rfl⟩ := List.mem_map.mp hx
  exact nb_ts m y (h y hy)
theorem copy_ok : ∀ (m : Nat) (d : D), pln m d = true → Wp (G__law_copy (m + 1) [d.tag toShr]) (fun z => z = (un d, []))
  | m, .non, h => by
    refine wp_body' rfl ?_
    simp [b__law_copy, sl0, List.replicate, isi_a1, isi_a2, isi_a3]
  | m, .bl b, h => by
    refine wp_body' rfl ?_
    simp [b__law_copy, sl0, List.replicate, isi_b1, isi_b2, isi_b3]
  | m, .int i, h => by
    refine wp_body' rfl ?_
    simp [b__law_copy, sl0, List.replicate, isi_c1, isi_c2, isi_c3]
  | m, .str x, h => by
    refine wp_body' rfl ?_
    simp [b__law_copy, sl0, List.replicate, isi_d1, isi_d2, isi_d3]
  | m, .hole, h => by cases m <;> simp [pln] at h
  | 0, .lst f xs, h => by simp [pln] at h
  | 0, .tup xs, h => by simp [pln] at h
  | m + 1, .lst f xs, h => by
    rw [pln_lst, Bool.and_eq_true_iff, decide_eq_true_eq, List.all_eq_true] at h
    refine wp_body' rfl ?_
    simp [b__law_copy, sl0, List.replicate]
    refine wp_lcX (D.tagL toShr xs) (fun k => un (xs.getD k .non)) (ρ0 := [.val false (.lst (toShr f) (D.tagL toShr xs)), .emp, .emp, .emp]) (by simp [tbL_tsL]; exact ⟨by cases f <;> decide, nbL_ts h.2⟩) (by simpa [D.tagL_map] using (by omega : xs.length ≤ 16777216)) rfl (fun k d hd => ?_) ?_
    · rw [tagL_get] at hd
      obtain ⟨y, hy, rfl⟩ := Option.map_eq_some_iff.mp hd
      have ih := copy_ok m y (h.2 y (List.mem_of_getElem? hy))
      simp [w_pCall, ts_ts, tb_ts]
      refine ih.mono ?_
      rintro _ rfl
      have hp := h.2 y (List.mem_of_getElem? hy)
      simp [hy, nb_ts m y hp, nb_un m y hp]
    · have := unL_vec (xs := xs)
      simpa [vec, un, unL] using this
  | m + 1, .tup xs, h => by
    rw [pln_tup, Bool.and_eq_true_iff, decide_eq_true_eq, List.all_eq_true] at h
    refine wp_body' rfl ?_
    simp [b__law_copy, sl0, List.replicate, isi_tt]
    refine wp_lcX (D.tagL toShr xs) (fun k => un (xs.getD k .non)) (ρ0 := [.val false (.tup (D.tagL toShr xs)), .emp, .emp, .emp]) (by simp [tbL_tsL]; exact nbL_ts h.2) (by simpa [D.tagL_map] using (by omega : xs.length ≤ 16777216)) rfl (fun k d hd => ?_) ?_
    · rw [tagL_get] at hd
      obtain ⟨y, hy, rfl⟩ := Option.map_eq_some_iff.mp hd
      have ih := copy_ok m y (h.2 y (List.mem_of_getElem? hy))
      simp [w_pCall, ts_ts, tb_ts]
      refine ih.mono ?_
      rintro _ rfl
      have hp := h.2 y (List.mem_of_getElem? hy)
      simp [hy, nb_ts m y hp, nb_un m y hp]
    · have := unL_vec (xs := xs)
      simpa [vec, un, unL] using this
  | m, .dik _ _ _, h => by cases m <;> simp [pln] at h
  | m, .dit _ _ _, h => by cases m <;> simp [pln] at h
  | m, .obj _ _ _ _, h => by cases m <;> simp [pln] at h
end
def cpR {α : Type} (e : α → D) (x : α) : R α := if pln 7 (e x) = true then .ok x else .stuck
theorem c_cp {α : Type} {e e1 e2 : α → D} [h1 : JTag toShr e e1] [h2 : JTag (fun _ => .own) e e2] (x : α) : Rf (G__law_copy 8 [e1 x]) (fun z => (e2 z, [])) (cpR e x) := by
  unfold cpR
  split
  · rename_i h
    have := (copy_ok 7 (e x) h).eq
    rw [h1.h] at this
    refine ⟨?_⟩
    show G__law_copy 8 [e1 x] = .ok (e2 x, [])
    rw [this, ← h2.h x]
    rfl
  · exact rf_stuck

def m__law_same (a0 : D) (a1 : D) : R Bool := match G__law_same 8 [a0, a1] with
  | .ok (.bl b, []) => .ok b
  | .exn x => .exn x
  | _ => .stuck
theorem c__law_same (a0 : D) (a1 : D) : Rf (G__law_same 8 [a0, a1]) (fun z => (jB z, [])) (m__law_same a0 a1) := by
  unfold m__law_same
  split
  · rename_i h; exact ⟨h⟩
  · rename_i h; exact ⟨h⟩
  · exact rf_stuck
def m_check (ok : Bool) (where_ : PySem.Str) : R Unit :=
  if (!ok) = true then (.exn ⟨"BadValue", "where", jS where_⟩)
  else (.ok ())
theorem c_check (ok : Bool) (where_ : PySem.Str) : Rf (G_check [jB ok, jS where_]) (fun z => (jU z, [])) (m_check ok where_) := by
  refine d_body [.val false (jB ok), .val false (jS where_)] rfl rfl (s_if (c_eB (c_not (c_tst ?_))))
  refine (c_var (e := jB) rfl (c_dB (c_ite (fun _ => ?_) (fun _ => ?_))))
  · exact (s_raise (c_var (e := jS) rfl (c_raiseK rfl)))
  · exact (s_nil (r_nx (x := ()) rfl))

def m_in_range (n_ : Int) (low : Int) (high : Int) : R Bool :=
  .ok ((decide (low ≤ n_)) && (decide (n_ ≤ high)))
theorem c_in_range (n_ : Int) (low : Int) (high : Int) : Rf (G_in_range [jI n_, jI low, jI high]) (fun z => (jB z, [])) (m_in_range n_ low high) := by
  refine d_body [.val false (jI n_), .val false (jI low), .val false (jI high)] rfl rfl (s_ret (c_eP (c_chain ?_)))
  refine (c_var (e := jI) rfl (c_var (e := jI) rfl ?_))
  refine (c_pure (e := jB) (x := (decide (low ≤ n_))) rfl (c_dB (c_andP ?_ (c_nb (e := jB) (x := ((decide (low ≤ n_)) && (decide (n_ ≤ high)))) (r_rt (x := ((decide (low ≤ n_)) && (decide (n_ ≤ high)))) rfl)))))
  exact (rf_id (rf_assoc (c_var (e := jI) rfl (c_pure (e := jB) (x := (decide (n_ ≤ high))) rfl (rf_eq rfl)))))

def m_all_in_range (numbers : (List Int)) (low : Int) (high : Int) : R Bool :=
  (mapP (fun n_ => ((decide (low ≤ n_)) && (decide (n_ ≤ high)))) numbers).bind fun t =>
  .ok (t.all id)
theorem c_all_in_range (numbers : (List Int)) (low : Int) (high : Int) : Rf (G_all_in_range [(jL .shr jI) numbers, jI low, jI high]) (fun z => (jB z, [])) (m_all_in_range numbers low high) := by
  refine d_body [.val false ((jL .shr jI) numbers), .val false (jI low), .val false (jI high), .emp] rfl rfl (s_ret ?_)
  refine (c_eopN (c_econs (c_lc (c_iLst (c_eP ?_)))))
  refine (c_var (e := (jL .shr jI)) rfl (c_nb (e := (jL .shr jI)) (x := numbers) (c_lstI (e := jI) (f := .shr) (xs := numbers) (c_mapP (ey := jB) (fun n_ => [.val false ((jL .shr jI) numbers), .val false (jI low), .val false (jI high), .val false (jI n_)]) rfl (fun _ => rfl) rfl (fun n_ => (rf_id ?_)) (fun _ => rfl) fun t => ?_))))
  · refine (c_eP (c_chain (c_var (e := jI) rfl (c_var (e := jI) rfl ?_))))
    refine (c_pure (e := jB) (x := (decide (low ≤ n_))) rfl (c_dB (c_andP ?_ (c_nb (e := jB) (x := ((decide (low ≤ n_)) && (decide (n_ ≤ high)))) (rf_eq rfl)))))
    exact (rf_id (rf_assoc (c_var (e := jI) rfl (c_pure (e := jB) (x := (decide (n_ ≤ high))) rfl (rf_eq rfl)))))
  · exact (c_enil (c_pure (e := jB) (x := (t.all id)) o_all (r_rt (x := (t.all id)) rfl)))

def m_check_loads (loads : (List Int)) (cranes : Int) : R Unit :=
  (if ((decide (1 ≤ (loads.length : Int))) && (decide ((loads.length : Int) ≤ 12))) = true then ((m_all_in_range loads 0 99).bind fun t =>
  .ok t) else .ok false : R Bool).bind fun t2 =>
  (m_check t2 (Str.ofString "loads")).bind fun t3 =>
  (m_in_range cranes 1 4).bind fun t4 =>
  (m_check t4 (Str.ofString "cranes")).bind fun t5 =>
  .ok ()
theorem c_check_loads (loads : (List Int)) (cranes : Int) : Rf (G_check_loads [(jL .shr jI) loads, jI cranes]) (fun z => (jU z, [])) (m_check_loads loads cranes) := by
  refine d_body [.val false ((jL .shr jI) loads), .val false (jI cranes)] rfl rfl (s_seq (s_expr (c_eP (c_call (c_cons ?_)))))
  refine (c_andV (c_chain (c_c (e := jI) (x := 1) rfl (c_opN (c_cons (c_var (e := (jL .shr jI)) rfl (c_nil ?_)))))))
  refine (c_pure (e := jI) (x := (loads.length : Int)) o_len ?_)
  refine (c_pure (e := jB) (x := (decide (1 ≤ (loads.length : Int)))) rfl (c_dB (c_andP ?_ (c_dB (c_andM (fun _ => ?_) fun t2 => ?_)))))
  · refine (rf_id (rf_assoc (c_c (e := jI) (x := 12) rfl ?_)))
    exact (c_pure (e := jB) (x := (decide ((loads.length : Int) ≤ 12))) rfl (rf_eq rfl))
  · refine (rf_id (c_call (c_cons (c_var (e := (jL .shr jI)) rfl (c_cons (c_c (e := jI) (x := 0) rfl (c_cons ?_)))))))
    refine (c_c (e := jI) (x := 99) rfl (c_nil ?_))
    exact (c_callS (ds := [(jL .shr jI) loads, jI 0, jI 99]) (e := jB) (c_all_in_range loads 0 99) rfl (tg_cons (tg_cons (tg_cons tg_nil))) fun t => (rf_eq rfl))
  · refine (c_cons (c_c (e := jS) (x := (Str.ofString "loads")) rfl (c_nil ?_)))
    refine (c_callS (ds := [jB t2, jS (Str.ofString "loads")]) (e := jU) (c_check t2 (Str.ofString "loads")) rfl (tg_cons (tg_cons tg_nil)) fun t3 => (c_nb (e := jU) (x := t3) ?_))
    refine (s_expr (c_eP (c_call (c_cons (c_call (c_cons (c_var (e := jI) rfl (c_cons (c_c (e := jI) (x := 1) rfl ?_)))))))))
    refine (c_cons (c_c (e := jI) (x := 4) rfl (c_nil ?_)))
    refine (c_callS (ds := [jI cranes, jI 1, jI 4]) (e := jB) (c_in_range cranes 1 4) rfl (tg_cons (tg_cons (tg_cons tg_nil))) fun t4 => ?_)
    refine (c_cons (c_c (e := jS) (x := (Str.ofString "cranes")) rfl (c_nil ?_)))
    exact (c_callS (ds := [jB t4, jS (Str.ofString "cranes")]) (e := jU) (c_check t4 (Str.ofString "cranes")) rfl (tg_cons (tg_cons tg_nil)) fun t5 => (c_nb (e := jU) (x := t5) (r_nx (x := ()) rfl)))

def m_stretches (loads : (List Int)) (most : Int) : R (List (Int × Int)) :=
  forC (fun (at_load : (Int × Int)) (s : (List (Int × Int)) × Int × Int) (nx_ : ((List (Int × Int)) × Int × Int) → R (List (Int × Int))) (bk_ : ((List (Int × Int)) × Int × Int) → R (List (Int × Int))) =>
  match s with | (rows, first, total) => (J (fun (rows2, first2, total2) =>
  (R.ok (total2 + at_load.2)).bind fun total3 =>
  nx_ (rows2, first2, total3)) fun j =>
  if (decide ((total + at_load.2) > most)) = true then ((appR rows (first, (at_load.1 - 1))).bind fun rows3 =>
  j (rows3, at_load.1, 0))
  else (j (rows, first, total))))
  (fun (rows, first, total) =>
  (appR rows (first, ((loads.length : Int) - 1))).bind fun rows4 =>
  .ok rows4) (enumI 0 loads) ([], 0, 0)
theorem c_stretches (loads : (List Int)) (most : Int) : Rf (G_stretches [(jL .shr jI) loads, jI most]) (fun z => ((jL .own (jT (jC jI (j1 jI)))) z, [])) (m_stretches loads most) := by
  refine d_body [.val false ((jL .shr jI) loads), .val false (jI most), .emp, .emp, .emp, .emp, .emp] rfl rfl (s_seq ?_)
  refine (s_set (c_eP (c_opN (c_nil ?_))))
  refine (c_pure (e := (jL .own (jT (jC jI (j1 jI))))) (x := []) rfl (c_nb (e := (jL .own (jT (jC jI (j1 jI))))) (x := []) (c_sto [.val false ((jL .shr jI) loads), .val false (jI most), .val false ((jL .own (jT (jC jI (j1 jI)))) []), .emp, .emp, .emp, .emp] rfl rfl ?_)))
  refine (s_seq (s_set (c_shr (c_eP ?_))))
  refine (c_c (e := jI) (x := 0) rfl (c_nb (e := jI) (x := 0) (c_shrK (e := jI) (x := 0) (c_sto [.val false ((jL .shr jI) loads), .val false (jI most), .val false ((jL .own (jT (jC jI (j1 jI)))) []), .val false (jI 0), .emp, .emp, .emp] rfl rfl ?_))))
  refine (s_seq (s_set (c_shr (c_eP ?_))))
  refine (c_c (e := jI) (x := 0) rfl (c_nb (e := jI) (x := 0) (c_shrK (e := jI) (x := 0) (c_sto [.val false ((jL .shr jI) loads), .val false (jI most), .val false ((jL .own (jT (jC jI (j1 jI)))) []), .val false (jI 0), .val false (jI 0), .emp, .emp] rfl rfl ?_))))
  refine (s_seq ?_)
  refine (s_wipe [.val false ((jL .shr jI) loads), .val false (jI most), .val false ((jL .own (jT (jC jI (j1 jI)))) []), .val false (jI 0), .val false (jI 0), .emp, .emp] rfl rfl ?_)
  refine (s_for (c_iEnu (c_eP ?_)))
  refine (c_var (e := (jL .shr jI)) rfl (c_nb (e := (jL .shr jI)) (x := loads) (c_enuI (e := jI) (f := .shr) (xs := loads) ?_)))
  refine (c_forL (e := (jT (jC jI (j1 jI)))) (s0 := ([], 0, 0)) (fun s : (List (Int × Int)) × Int × Int => [.val false ((jL .shr jI) loads), .val false (jI most), .val false ((jL .own (jT (jC jI (j1 jI)))) s.1), .val false (jI s.2.1), .val false (jI s.2.2), .emp, .emp]) (fun ⟨rows, first, total⟩ => ?_) fun at_load ⟨rows, first, total⟩ nx_ bk_ NX hn hk => (c_tg [.val false ((jL .shr jI) loads), .val false (jI most), .val false ((jL .own (jT (jC jI (j1 jI)))) rows), .val false (jI first), .val false (jI total), .val false (jI at_load.1), .val false (jI at_load.2)] rfl ?_))
  · refine (s_seq (s_expr (c_mut (c_chkO rfl (c_econs (c_eP (c_opN (c_cons (c_var (e := jI) rfl (c_cons (c_op2 ?_)))))))))))
    refine (c_opN (c_cons (c_var (e := (jL .shr jI)) rfl (c_nil (c_pure (e := jI) (x := (loads.length : Int)) o_len ?_)))))
    refine (c_c (e := jI) (x := 1) rfl (c_pure (e := jI) (x := ((loads.length : Int) - 1)) rfl (c_nil ?_)))
    refine (c_pure (e := (jT (jC jI (j1 jI)))) (x := (first, ((loads.length : Int) - 1))) rfl (c_nb (e := (jT (jC jI (j1 jI)))) (x := (first, ((loads.length : Int) - 1))) ?_))
    refine (c_enil (c_mutK (ed := (jL .own (jT (jC jI (j1 jI))))) (er := fun _ => jU ()) (fun rows4 => [.val false ((jL .shr jI) loads), .val false (jI most), .val false ((jL .own (jT (jC jI (j1 jI)))) rows4), .val false (jI first), .val false (jI total), .emp, .emp]) rfl (o_app (e := (jT (jC jI (j1 jI)))) (x := (first, ((loads.length : Int) - 1)))) (fun _ => rfl) fun rows4 => ?_))
    refine (s_ret ?_)
    exact (c_move (e := (jL .own (jT (jC jI (j1 jI))))) (x := rows4) (ρ2 := [.val false ((jL .shr jI) loads), .val false (jI most), .emp, .val false (jI first), .val false (jI total), .emp, .emp]) rfl rfl (r_rt (x := rows4) rfl))
  · refine (s_wipA (s_seq (s_if (c_eB (c_tst (c_op2 (c_op2 (c_var (e := jI) rfl (c_var (e := jI) rfl ?_)))))))))
    refine (c_pure (e := jI) (x := (total + at_load.2)) rfl (c_var (e := jI) rfl ?_))
    refine (c_pure (e := jB) (x := (decide ((total + at_load.2) > most))) rfl (c_dB (s_join (F := (fun s : (List (Int × Int)) × Int × Int => [.val false ((jL .shr jI) loads), .val false (jI most), .val false ((jL .own (jT (jC jI (j1 jI)))) s.1), .val false (jI s.2.1), .val false (jI s.2.2), .val false (jI at_load.1), .val false (jI at_load.2)])) (fun ⟨rows2, first2, total2⟩ => ?_) fun j hj => (c_ite (fun _ => ?_) (fun _ => ?_)))))
    · refine (s_aug (e := jI) (x := total2) rfl (c_eP (c_var (e := jI) rfl (c_nb (e := jI) (x := at_load.2) ?_))))
      exact (c_pure (e := jI) (x := (total2 + at_load.2)) rfl (c_stoL (e := jI) (t := (total2 + at_load.2)) (fun total3 => [.val false ((jL .shr jI) loads), .val false (jI most), .val false ((jL .own (jT (jC jI (j1 jI)))) rows2), .val false (jI first2), .val false (jI total3), .val false (jI at_load.1), .val false (jI at_load.2)]) rfl (fun _ => rfl) fun total3 => (c_wipN [.val false ((jL .shr jI) loads), .val false (jI most), .val false ((jL .own (jT (jC jI (j1 jI)))) rows2), .val false (jI first2), .val false (jI total3), .emp, .emp] rfl rfl (hn (rows2, first2, total3)))))
    · refine (s_seq (s_expr (c_mut (c_chkO rfl (c_econs (c_eP (c_opN (c_cons (c_var (e := jI) rfl (c_cons (c_op2 ?_)))))))))))
      refine (c_var (e := jI) rfl (c_c (e := jI) (x := 1) rfl (c_pure (e := jI) (x := (at_load.1 - 1)) rfl (c_nil ?_))))
      refine (c_pure (e := (jT (jC jI (j1 jI)))) (x := (first, (at_load.1 - 1))) rfl (c_nb (e := (jT (jC jI (j1 jI)))) (x := (first, (at_load.1 - 1))) ?_))
      refine (c_enil (c_mutK (ed := (jL .own (jT (jC jI (j1 jI))))) (er := fun _ => jU ()) (fun rows3 => [.val false ((jL .shr jI) loads), .val false (jI most), .val false ((jL .own (jT (jC jI (j1 jI)))) rows3), .val false (jI first), .val false (jI total), .val false (jI at_load.1), .val false (jI at_load.2)]) rfl (o_app (e := (jT (jC jI (j1 jI)))) (x := (first, (at_load.1 - 1)))) (fun _ => rfl) fun rows3 => ?_))
      refine (s_seq (s_set (c_shr (c_eP ?_))))
      refine (c_var (e := jI) rfl (c_nb (e := jI) (x := at_load.1) (c_shrK (e := jI) (x := at_load.1) (c_sto [.val false ((jL .shr jI) loads), .val false (jI most), .val false ((jL .own (jT (jC jI (j1 jI)))) rows3), .val false (jI at_load.1), .val false (jI total), .val false (jI at_load.1), .val false (jI at_load.2)] rfl rfl ?_))))
      refine (s_set (c_shr (c_eP ?_)))
      exact (c_c (e := jI) (x := 0) rfl (c_nb (e := jI) (x := 0) (c_shrK (e := jI) (x := 0) (c_sto [.val false ((jL .shr jI) loads), .val false (jI most), .val false ((jL .own (jT (jC jI (j1 jI)))) rows3), .val false (jI at_load.1), .val false (jI 0), .val false (jI at_load.1), .val false (jI at_load.2)] rfl rfl (hj (rows3, at_load.1, 0))))))
    · exact (s_nil (hj (rows, first, total)))

def m_least_most (loads : (List Int)) (cranes : Int) : R Int :=
  (maxR loads).bind fun low =>
  (R.ok (loads.sum)).bind fun high =>
  whileC (fun (s : Int × Int) (nx_ : (Int × Int) → R Int) =>
  match s with | (low2, high2) => (if (decide (low2 < high2)) = true then ((R.ok ((low2 + high2) / 2)).bind fun middle =>
  (m_stretches loads middle).bind fun t =>
  if (decide ((t.length : Int) ≤ cranes)) = true then (nx_ (low2, middle))
  else ((R.ok (middle + 1)).bind fun low3 =>
  nx_ (low3, high2)))
  else (.ok low2))) wfuel (low, high)
theorem c_least_most (loads : (List Int)) (cranes : Int) : Rf (G_least_most [(jL .shr jI) loads, jI cranes]) (fun z => (jI z, [])) (m_least_most loads cranes) := by
  refine d_body [.val false ((jL .shr jI) loads), .val false (jI cranes), .emp, .emp, .emp] rfl rfl (s_seq (s_set (c_eP ?_)))
  refine (c_opN (c_cons (c_var (e := (jL .shr jI)) rfl (c_nil ?_))))
  refine (c_mon (e := jI) o_max fun low => (c_nb (e := jI) (x := low) (c_sto [.val false ((jL .shr jI) loads), .val false (jI cranes), .val false (jI low), .emp, .emp] rfl rfl ?_)))
  refine (s_seq (s_set (c_shr (c_eP (c_opN (c_cons (c_var (e := (jL .shr jI)) rfl (c_nil ?_))))))))
  refine (c_pure (e := jI) (x := (loads.sum)) o_sum (c_nb (e := jI) (x := (loads.sum)) (c_shrK (e := jI) (x := (loads.sum)) (c_stoL (e := jI) (t := (loads.sum)) (fun high => [.val false ((jL .shr jI) loads), .val false (jI cranes), .val false (jI low), .val false (jI high), .emp]) rfl (fun _ => rfl) fun high => ?_))))
  refine (s_seq ?_)
  refine (s_wipe [.val false ((jL .shr jI) loads), .val false (jI cranes), .val false (jI low), .val false (jI high), .emp] rfl rfl ?_)
  refine (s_whileL (fun s : Int × Int => [.val false ((jL .shr jI) loads), .val false (jI cranes), .val false (jI s.1), .val false (jI s.2), .emp]) (fun ⟨low2, high2⟩ nx_ NX hn => ?_) wfuel (low, high))
  refine (c_eB (c_tst (c_op2 (c_var (e := jI) rfl (c_var (e := jI) rfl ?_)))))
  refine (c_pure (e := jB) (x := (decide (low2 < high2))) rfl (c_dB (c_ite (fun _ => ?_) (fun _ => ?_))))
  · refine (s_wipA (s_seq (s_set (c_shr (c_eP (c_op2 (c_op2 (c_var (e := jI) rfl (c_var (e := jI) rfl ?_)))))))))
    refine (c_pure (e := jI) (x := (low2 + high2)) rfl (c_c (e := jI) (x := 2) rfl ?_))
    refine (c_pure (e := jI) (x := ((low2 + high2) / 2)) (o_divc (by decide)) (c_nb (e := jI) (x := ((low2 + high2) / 2)) (c_shrK (e := jI) (x := ((low2 + high2) / 2)) (c_stoL (e := jI) (t := ((low2 + high2) / 2)) (fun middle => [.val false ((jL .shr jI) loads), .val false (jI cranes), .val false (jI low2), .val false (jI high2), .val false (jI middle)]) rfl (fun _ => rfl) fun middle => ?_))))
    refine (s_if (c_eB (c_tst (c_op2 (c_opN (c_cons (c_call (c_cons (c_var (e := (jL .shr jI)) rfl (c_cons ?_))))))))))
    refine (c_var (e := jI) rfl (c_nil ?_))
    refine (c_callS (ds := [(jL .shr jI) loads, jI middle]) (e := (jL .own (jT (jC jI (j1 jI))))) (c_stretches loads middle) rfl (tg_cons (tg_cons tg_nil)) fun t => ?_)
    refine (c_nil (c_pure (e := jI) (x := (t.length : Int)) o_len (c_var (e := jI) rfl ?_)))
    refine (c_pure (e := jB) (x := (decide ((t.length : Int) ≤ cranes))) rfl (c_dB (c_ite (fun _ => ?_) (fun _ => ?_))))
    · refine (s_set (c_shr (c_eP ?_)))
      exact (c_var (e := jI) rfl (c_nb (e := jI) (x := middle) (c_shrK (e := jI) (x := middle) (c_sto [.val false ((jL .shr jI) loads), .val false (jI cranes), .val false (jI low2), .val false (jI middle), .val false (jI middle)] rfl rfl (c_wipN [.val false ((jL .shr jI) loads), .val false (jI cranes), .val false (jI low2), .val false (jI middle), .emp] rfl rfl (hn (low2, middle)))))))
    · refine (s_set (c_eP (c_op2 (c_var (e := jI) rfl (c_c (e := jI) (x := 1) rfl ?_)))))
      exact (c_pure (e := jI) (x := (middle + 1)) rfl (c_nb (e := jI) (x := (middle + 1)) (c_stoL (e := jI) (t := (middle + 1)) (fun low3 => [.val false ((jL .shr jI) loads), .val false (jI cranes), .val false (jI low3), .val false (jI high2), .val false (jI middle)]) rfl (fun _ => rfl) fun low3 => (c_wipN [.val false ((jL .shr jI) loads), .val false (jI cranes), .val false (jI low3), .val false (jI high2), .emp] rfl rfl (hn (low3, high2))))))
  · refine (s_ret ?_)
    exact (c_move (e := jI) (x := low2) (ρ2 := [.val false ((jL .shr jI) loads), .val false (jI cranes), .emp, .val false (jI high2), .emp]) rfl rfl (r_rt (x := low2) rfl))

def m_place_of_sum (loads : (List Int)) (first : Int) (most : Int) : R Int :=
  (idx loads first).bind fun total =>
  whileC (fun (s : Int × Int) (nx_ : (Int × Int) → R Int) =>
  match s with | (place, total2) => (if (decide (total2 < most)) = true then ((R.ok (place + 1)).bind fun place2 =>
  (idx loads place2).bind fun t =>
  (R.ok (total2 + t)).bind fun total3 =>
  nx_ (place2, total3))
  else (.ok place))) wfuel (first, total)
theorem c_place_of_sum (loads : (List Int)) (first : Int) (most : Int) : Rf (G_place_of_sum [(jL .shr jI) loads, jI first, jI most]) (fun z => (jI z, [])) (m_place_of_sum loads first most) := by
  refine d_body [.val false ((jL .shr jI) loads), .val false (jI first), .val false (jI most), .emp, .emp] rfl rfl (s_seq ?_)
  refine (s_set (c_eP ?_))
  refine (c_var (e := jI) rfl (c_nb (e := jI) (x := first) (c_sto [.val false ((jL .shr jI) loads), .val false (jI first), .val false (jI most), .val false (jI first), .emp] rfl rfl ?_)))
  refine (s_seq (s_set (c_shr (c_eP (c_op2 (c_var (e := (jL .shr jI)) rfl (c_var (e := jI) rfl ?_)))))))
  refine (c_mon (e := jI) (o_ix (f := .shr)) fun total => (c_nb (e := jI) (x := total) (c_shrK (e := jI) (x := total) (c_sto [.val false ((jL .shr jI) loads), .val false (jI first), .val false (jI most), .val false (jI first), .val false (jI total)] rfl rfl ?_))))
  refine (s_seq ?_)
  refine (s_whileL (fun s : Int × Int => [.val false ((jL .shr jI) loads), .val false (jI first), .val false (jI most), .val false (jI s.1), .val false (jI s.2)]) (fun ⟨place, total2⟩ nx_ NX hn => ?_) wfuel (first, total))
  refine (c_eB (c_tst (c_op2 (c_var (e := jI) rfl (c_var (e := jI) rfl ?_)))))
  refine (c_pure (e := jB) (x := (decide (total2 < most))) rfl (c_dB (c_ite (fun _ => ?_) (fun _ => ?_))))
  · refine (s_seq (s_aug (e := jI) (x := place) rfl (c_eP (c_c (e := jI) (x := 1) rfl (c_nb (e := jI) (x := 1) ?_)))))
    refine (c_pure (e := jI) (x := (place + 1)) rfl (c_stoL (e := jI) (t := (place + 1)) (fun place2 => [.val false ((jL .shr jI) loads), .val false (jI first), .val false (jI most), .val false (jI place2), .val false (jI total2)]) rfl (fun _ => rfl) fun place2 => ?_))
    refine (s_set (c_shr (c_eP (c_op2 (c_var (e := jI) rfl (c_op2 (c_var (e := (jL .shr jI)) rfl (c_var (e := jI) rfl ?_))))))))
    refine (c_mon (e := jI) (o_ix (f := .shr)) fun t => ?_)
    exact (c_pure (e := jI) (x := (total2 + t)) rfl (c_nb (e := jI) (x := (total2 + t)) (c_shrK (e := jI) (x := (total2 + t)) (c_stoL (e := jI) (t := (total2 + t)) (fun total3 => [.val false ((jL .shr jI) loads), .val false (jI first), .val false (jI most), .val false (jI place2), .val false (jI total3)]) rfl (fun _ => rfl) fun total3 => (hn (place2, total3))))))
  · refine (s_ret ?_)
    exact (c_move (e := jI) (x := place) (ρ2 := [.val false ((jL .shr jI) loads), .val false (jI first), .val false (jI most), .emp, .val false (jI total2)]) rfl rfl (r_rt (x := place) rfl))

def m_paper_of (loads : (List Int)) (cranes : Int) (most : Int) : R (PySem.Str × (Int ⊕ (List Int))) :=
  if (decide (most ∈ loads)) = true then ((indexR loads most).bind fun t =>
  .ok ((Str.ofString "bay"), (Sum.inl t)))
  else ((rngR cranes).bind fun ks =>
  forC (fun (u_ : Int) (starts : (List Int)) (nx_ : ((List Int)) → R (PySem.Str × (Int ⊕ (List Int)))) (bk_ : ((List Int)) → R (PySem.Str × (Int ⊕ (List Int)))) =>
  (idx starts (-1)).bind fun t2 =>
  (m_place_of_sum loads t2 most).bind fun t3 =>
  (appR starts t3).bind fun starts2 =>
  nx_ starts2)
  (fun starts =>
  .ok ((Str.ofString "starts"), (Sum.inr starts))) ks [0])
theorem c_paper_of (loads : (List Int)) (cranes : Int) (most : Int) : Rf (G_paper_of [(jL .shr jI) loads, jI cranes, jI most]) (fun z => ((jT (jC jS (j1 (jZ jI (jL .own jI))))) z, [])) (m_paper_of loads cranes most) := by
  refine d_body [.val false ((jL .shr jI) loads), .val false (jI cranes), .val false (jI most), .emp, .emp] rfl rfl (s_seq ?_)
  refine (s_if (c_eB (c_tst (c_op2 (c_var (e := jI) rfl (c_var (e := (jL .shr jI)) rfl ?_))))))
  refine (c_pure (e := jB) (x := (decide (most ∈ loads))) (o_in (e' := jI) (e := jI) (f := .shr) (x := most) (xs := loads)) (c_dB (c_ite (fun _ => ?_) (fun _ => ?_))))
  · refine (s_ret (c_eP (c_opN (c_cons (c_c (e := jS) (x := (Str.ofString "bay")) rfl (c_cons (c_met ?_)))))))
    refine (c_var (e := (jL .shr jI)) rfl (c_isl (c_cons (c_var (e := jI) rfl (c_nil (c_mon (e := jI) o_index fun t => ?_))))))
    refine (c_nil ?_)
    exact (c_pure (e := (jT (jC jS (j1 (jZ jI (jL .own jI)))))) (x := ((Str.ofString "bay"), (Sum.inl t))) rfl (c_nb (e := (jT (jC jS (j1 (jZ jI (jL .own jI)))))) (x := ((Str.ofString "bay"), (Sum.inl t))) (r_rt (x := ((Str.ofString "bay"), (Sum.inl t))) rfl)))
  · refine (s_nil (s_seq (s_set (c_eP (c_opN (c_cons (c_c (e := jI) (x := 0) rfl (c_nil ?_))))))))
    refine (c_pure (e := (jL .own jI)) (x := [0]) rfl (c_nb (e := (jL .own jI)) (x := [0]) (c_sto [.val false ((jL .shr jI) loads), .val false (jI cranes), .val false (jI most), .val false ((jL .own jI) [0]), .emp] rfl rfl ?_)))
    refine (s_seq ?_)
    refine (s_wipe [.val false ((jL .shr jI) loads), .val false (jI cranes), .val false (jI most), .val false ((jL .own jI) [0]), .emp] rfl rfl ?_)
    refine (s_for (c_iRng1 (c_eP (c_var (e := jI) rfl (c_nb (e := jI) (x := cranes) (c_i1 fun ks => ?_))))))
    refine (c_forL (e := jI) (s0 := [0]) (fun s : (List Int) => [.val false ((jL .shr jI) loads), .val false (jI cranes), .val false (jI most), .val false ((jL .own jI) s), .emp]) (fun starts => ?_) fun u_ starts nx_ bk_ NX hn hk => (c_tg [.val false ((jL .shr jI) loads), .val false (jI cranes), .val false (jI most), .val false ((jL .own jI) starts), .val false (jI u_)] rfl ?_))
    · refine (s_ret (c_eopN (c_econs (c_eP ?_))))
      refine (c_c (e := jS) (x := (Str.ofString "starts")) rfl (c_nb (e := jS) (x := (Str.ofString "starts")) (c_econs ?_)))
      refine (c_move (e := (jL .own jI)) (x := starts) (ρ2 := [.val false ((jL .shr jI) loads), .val false (jI cranes), .val false (jI most), .emp, .emp]) rfl rfl ?_)
      refine (c_enil ?_)
      exact (c_pure (e := (jT (jC jS (j1 (jZ jI (jL .own jI)))))) (x := ((Str.ofString "starts"), (Sum.inr starts))) rfl (r_rt (x := ((Str.ofString "starts"), (Sum.inr starts))) rfl))
    · refine (s_wipA (s_expr (c_mut (c_chkO rfl (c_econs (c_eP (c_call (c_cons (c_var (e := (jL .shr jI)) rfl (c_cons ?_))))))))))
      refine (c_op2 (c_var (e := (jL .own jI)) rfl (c_op1 (c_c (e := jI) (x := 1) rfl (c_pure (e := jI) (x := (-1)) rfl ?_)))))
      refine (c_mon (e := jI) (o_ix (f := .bor)) fun t2 => (c_cons (c_var (e := jI) rfl (c_nil ?_))))
      refine (c_callS (ds := [(jL .shr jI) loads, jI t2, jI most]) (e := jI) (c_place_of_sum loads t2 most) rfl (tg_cons (tg_cons (tg_cons tg_nil))) fun t3 => (c_nb (e := jI) (x := t3) ?_))
      exact (c_enil (c_mutK (ed := (jL .own jI)) (er := fun _ => jU ()) (fun starts2 => [.val false ((jL .shr jI) loads), .val false (jI cranes), .val false (jI most), .val false ((jL .own jI) starts2), .val false (jI u_)]) rfl (o_app (e := jI) (x := t3)) (fun _ => rfl) fun starts2 => (c_wipN [.val false ((jL .shr jI) loads), .val false (jI cranes), .val false (jI most), .val false ((jL .own jI) starts2), .emp] rfl rfl (hn starts2))))

def m_zones (loads : (List Int)) (cranes : Int) : R (Int × (List (Int × Int)) × (PySem.Str × (Int ⊕ (List Int)))) :=
  (m_check_loads loads cranes).bind fun t =>
  (m_least_most loads cranes).bind fun most =>
  (m_stretches loads most).bind fun t2 =>
  (m_paper_of loads cranes most).bind fun t3 =>
  .ok (most, t2, t3)
theorem c_zones (loads : (List Int)) (cranes : Int) : Rf (G_zones [(jL .shr jI) loads, jI cranes]) (fun z => ((jT (jC jI (jC (jL .own (jT (jC jI (j1 jI)))) (j1 (jT (jC jS (j1 (jZ jI (jL .own jI))))))))) z, [])) (m_zones loads cranes) := by
  refine d_body [.val false ((jL .shr jI) loads), .val false (jI cranes), .emp] rfl rfl (s_seq (s_expr (c_eP (c_call ?_))))
  refine (c_cons (c_var (e := (jL .shr jI)) rfl (c_cons (c_var (e := jI) rfl (c_nil ?_)))))
  refine (c_callS (ds := [(jL .shr jI) loads, jI cranes]) (e := jU) (c_check_loads loads cranes) rfl (tg_cons (tg_cons tg_nil)) fun t => (c_nb (e := jU) (x := t) ?_))
  refine (s_seq (s_set (c_shr (c_eP (c_call (c_cons (c_var (e := (jL .shr jI)) rfl (c_cons (c_var (e := jI) rfl ?_)))))))))
  refine (c_nil ?_)
  refine (c_callS (ds := [(jL .shr jI) loads, jI cranes]) (e := jI) (c_least_most loads cranes) rfl (tg_cons (tg_cons tg_nil)) fun most => (c_nb (e := jI) (x := most) (c_shrK (e := jI) (x := most) (c_sto [.val false ((jL .shr jI) loads), .val false (jI cranes), .val false (jI most)] rfl rfl ?_))))
  refine (s_ret (c_eP (c_opN (c_cons (c_var (e := jI) rfl (c_cons (c_call (c_cons (c_var (e := (jL .shr jI)) rfl ?_)))))))))
  refine (c_cons (c_var (e := jI) rfl (c_nil ?_)))
  refine (c_callS (ds := [(jL .shr jI) loads, jI most]) (e := (jL .own (jT (jC jI (j1 jI))))) (c_stretches loads most) rfl (tg_cons (tg_cons tg_nil)) fun t2 => ?_)
  refine (c_cons (c_call (c_cons (c_var (e := (jL .shr jI)) rfl (c_cons (c_var (e := jI) rfl (c_cons ?_)))))))
  refine (c_var (e := jI) rfl (c_nil ?_))
  refine (c_callS (ds := [(jL .shr jI) loads, jI cranes, jI most]) (e := (jT (jC jS (j1 (jZ jI (jL .own jI)))))) (c_paper_of loads cranes most) rfl (tg_cons (tg_cons (tg_cons tg_nil))) fun t3 => ?_)
  refine (c_nil ?_)
  exact (c_pure (e := (jT (jC jI (jC (jL .own (jT (jC jI (j1 jI)))) (j1 (jT (jC jS (j1 (jZ jI (jL .own jI)))))))))) (x := (most, t2, t3)) rfl (c_nb (e := (jT (jC jI (jC (jL .own (jT (jC jI (j1 jI)))) (j1 (jT (jC jS (j1 (jZ jI (jL .own jI)))))))))) (x := (most, t2, t3)) (r_rt (x := (most, t2, t3)) rfl)))

def m_zones_ok (loads : (List Int)) (cranes : Int) (most : Int) (paper : (PySem.Str × (Int ⊕ (List Int)))) : R Bool :=
  (m_check_loads loads cranes).bind fun t =>
  if (decide (paper.1 = (Str.ofString "bay"))) = true then ((R.of (Sum.getLeft? paper.2)).bind fun told =>
  (if ((decide (0 ≤ told)) && (decide (told < (loads.length : Int)))) = true then ((idx loads told).bind fun t2 =>
  .ok (decide (t2 ≥ most))) else .ok false : R Bool).bind fun t3 =>
  .ok t3)
  else ((R.of (Sum.getRight? paper.2)).bind fun told2 =>
  if ((!decide (paper.1 = (Str.ofString "starts"))) || (!decide ((told2.length : Int) = (cranes + 1)))) = true then (.ok false)
  else ((m_all_in_range told2 0 ((loads.length : Int) - 1)).bind fun t4 =>
  (if (!t4) = true then .ok true else ((idx told2 0).bind fun t5 =>
  .ok (!decide (t5 = 0))) : R Bool).bind fun t6 =>
  if t6 = true then (.ok false)
  else ((rngR cranes).bind fun ks =>
  forC (fun (at_ : Int) (s : Unit) (nx_ : (Unit) → R Bool) (bk_ : (Unit) → R Bool) =>
  (idx told2 (at_ + 1)).bind fun t7 =>
  (idx told2 at_).bind fun t8 =>
  (if (decide (t7 < t8)) = true then .ok true else ((idx told2 at_).bind fun t9 =>
  (idx told2 (at_ + 1)).bind fun t10 =>
  .ok (decide (((cut loads (some t9) (some (t10 + 1))).sum) < most))) : R Bool).bind fun t11 =>
  if t11 = true then (.ok false)
  else (nx_ ()))
  (fun _ =>
  .ok true) ks ())))
theorem c_zones_ok (loads : (List Int)) (cranes : Int) (most : Int) (paper : (PySem.Str × (Int ⊕ (List Int)))) : Rf (G_zones_ok [(jL .shr jI) loads, jI cranes, jI most, (jT (jC jS (j1 (jZ jI (jL .shr jI))))) paper]) (fun z => (jB z, [])) (m_zones_ok loads cranes most paper) := by
  refine d_body [.val false ((jL .shr jI) loads), .val false (jI cranes), .val false (jI most), .val false ((jT (jC jS (j1 (jZ jI (jL .shr jI))))) paper), .emp, .emp, .emp] rfl rfl ?_
  refine (s_seq (s_expr (c_eP (c_call (c_cons (c_var (e := (jL .shr jI)) rfl (c_cons (c_var (e := jI) rfl (c_nil ?_)))))))))
  refine (c_callS (ds := [(jL .shr jI) loads, jI cranes]) (e := jU) (c_check_loads loads cranes) rfl (tg_cons (tg_cons tg_nil)) fun t => (c_nb (e := jU) (x := t) ?_))
  refine (s_seq (s_asg (c_shr (c_eP ?_))))
  refine (c_var (e := (jT (jC jS (j1 (jZ jI (jL .shr jI)))))) rfl (c_nb (e := (jT (jC jS (j1 (jZ jI (jL .shr jI)))))) (x := paper) (c_shrK (e := (jT (jC jS (j1 (jZ jI (jL .shr jI)))))) (x := paper) (c_tg [.val false ((jL .shr jI) loads), .val false (jI cranes), .val false (jI most), .val false ((jT (jC jS (j1 (jZ jI (jL .shr jI))))) paper), .val false (jS paper.1), .val false ((jZ jI (jL .shr jI)) paper.2), .emp] rfl ?_))))
  refine (s_seq (s_if (c_eB (c_tst (c_op2 (c_var (e := jS) rfl (c_c (e := jS) (x := (Str.ofString "bay")) rfl ?_)))))))
  refine (c_pure (e := jB) (x := (decide (paper.1 = (Str.ofString "bay")))) (o_eq (e := jS) (e' := jS) (x := paper.1) (y := (Str.ofString "bay"))) (c_dB (c_ite (fun _ => ?_) (fun _ => ?_))))
  · refine (s_cast (F := fun d_ => [.val false ((jL .shr jI) loads), .val false (jI cranes), .val false (jI most), .val false ((jT (jC jS (j1 (jZ jI (jL .shr jI))))) paper), .val false (jS paper.1), .val false d_, .emp]) (ex := (jZ jI (jL .shr jI))) (ey := jI) (g := Sum.getLeft?) (x := paper.2) (fun _ _ => z_l) fun told => ?_)
    refine (s_ret (c_eP (c_andV (c_chain (c_c (e := jI) (x := 0) rfl (c_var (e := jI) rfl ?_))))))
    refine (c_pure (e := jB) (x := (decide (0 ≤ told))) rfl (c_dB (c_andP ?_ (c_dB (c_andM (fun _ => ?_) fun t3 => (c_nb (e := jB) (x := t3) (r_rt (x := t3) rfl)))))))
    · refine (rf_id (rf_assoc (c_opN (c_cons (c_var (e := (jL .shr jI)) rfl (c_nil ?_))))))
      refine (c_pure (e := jI) (x := (loads.length : Int)) o_len ?_)
      exact (c_pure (e := jB) (x := (decide (told < (loads.length : Int)))) rfl (rf_eq rfl))
    · refine (rf_id (c_op2 (c_op2 (c_var (e := (jL .shr jI)) rfl (c_var (e := jI) rfl ?_)))))
      refine (c_mon (e := jI) (o_ix (f := .shr)) fun t2 => (c_var (e := jI) rfl ?_))
      exact (c_pure (e := jB) (x := (decide (t2 ≥ most))) rfl (rf_eq rfl))
  · refine (s_nil (s_seq ?_))
    refine (s_cast (F := fun d_ => [.val false ((jL .shr jI) loads), .val false (jI cranes), .val false (jI most), .val false ((jT (jC jS (j1 (jZ jI (jL .shr jI))))) paper), .val false (jS paper.1), .val false d_, .emp]) (ex := (jZ jI (jL .shr jI))) (ey := (jL .shr jI)) (g := Sum.getRight?) (x := paper.2) (fun _ _ => z_r) fun told2 => ?_)
    refine (s_if (c_eB (c_or (c_tst (c_op2 (c_var (e := jS) rfl (c_c (e := jS) (x := (Str.ofString "starts")) rfl ?_)))))))
    refine (c_pure (e := jB) (x := (!decide (paper.1 = (Str.ofString "starts")))) (o_ne (e := jS) (e' := jS) (x := paper.1) (y := (Str.ofString "starts"))) (c_dB (c_borP ?_ (c_ite (fun _ => ?_) (fun _ => ?_)))))
    · refine (rf_id (c_tst (c_op2 (c_opN (c_cons (c_var (e := (jL .shr jI)) rfl (c_nil ?_)))))))
      refine (c_pure (e := jI) (x := (told2.length : Int)) o_len (c_op2 (c_var (e := jI) rfl (c_c (e := jI) (x := 1) rfl ?_))))
      refine (c_pure (e := jI) (x := (cranes + 1)) rfl ?_)
      exact (c_pure (e := jB) (x := (!decide ((told2.length : Int) = (cranes + 1)))) (o_ne (e := jI) (e' := jI) (x := (told2.length : Int)) (y := (cranes + 1))) (c_dB (rf_eq rfl)))
    · exact (s_ret (c_eP (c_c (e := jB) (x := false) rfl (c_nb (e := jB) (x := false) (r_rt (x := false) rfl)))))
    · refine (s_nil (s_seq (s_if (c_eB (c_or (c_not (c_tst (c_call (c_cons (c_var (e := (jL .shr jI)) rfl (c_cons ?_)))))))))))
      refine (c_c (e := jI) (x := 0) rfl (c_cons (c_op2 (c_opN (c_cons (c_var (e := (jL .shr jI)) rfl (c_nil ?_)))))))
      refine (c_pure (e := jI) (x := (loads.length : Int)) o_len (c_c (e := jI) (x := 1) rfl ?_))
      refine (c_pure (e := jI) (x := ((loads.length : Int) - 1)) rfl (c_nil ?_))
      refine (c_callS (ds := [(jL .shr jI) told2, jI 0, jI ((loads.length : Int) - 1)]) (e := jB) (c_all_in_range told2 0 ((loads.length : Int) - 1)) rfl (tg_cons (tg_cons (tg_cons tg_nil))) fun t4 => (c_dB (c_borM (fun _ => ?_) fun t6 => (c_ite (fun _ => ?_) (fun _ => ?_)))))
      · refine (rf_id (c_tst (c_op2 (c_op2 (c_var (e := (jL .shr jI)) rfl (c_c (e := jI) (x := 0) rfl ?_))))))
        refine (c_mon (e := jI) (o_ix (f := .shr)) fun t5 => (c_c (e := jI) (x := 0) rfl ?_))
        exact (c_pure (e := jB) (x := (!decide (t5 = 0))) (o_ne (e := jI) (e' := jI) (x := t5) (y := 0)) (c_dB (rf_eq rfl)))
      · exact (s_ret (c_eP (c_c (e := jB) (x := false) rfl (c_nb (e := jB) (x := false) (r_rt (x := false) rfl)))))
      · refine (s_nil (s_seq ?_))
        refine (s_wipe [.val false ((jL .shr jI) loads), .val false (jI cranes), .val false (jI most), .val false ((jT (jC jS (j1 (jZ jI (jL .shr jI))))) paper), .val false (jS paper.1), .val false ((jL .shr jI) told2), .emp] rfl rfl ?_)
        refine (s_for (c_iRng1 (c_eP (c_var (e := jI) rfl (c_nb (e := jI) (x := cranes) (c_i1 fun ks => ?_))))))
        refine (c_forL (e := jI) (s0 := ()) (fun s : Unit => [.val false ((jL .shr jI) loads), .val false (jI cranes), .val false (jI most), .val false ((jT (jC jS (j1 (jZ jI (jL .shr jI))))) paper), .val false (jS paper.1), .val false ((jL .shr jI) told2), .emp]) (fun _ => ?_) fun at_ _ nx_ bk_ NX hn hk => (c_tg [.val false ((jL .shr jI) loads), .val false (jI cranes), .val false (jI most), .val false ((jT (jC jS (j1 (jZ jI (jL .shr jI))))) paper), .val false (jS paper.1), .val false ((jL .shr jI) told2), .val false (jI at_)] rfl ?_))
        · exact (s_ret (c_eP (c_c (e := jB) (x := true) rfl (c_nb (e := jB) (x := true) (r_rt (x := true) rfl)))))
        · refine (s_wipA (s_if (c_eB (c_or (c_tst (c_op2 (c_op2 (c_var (e := (jL .shr jI)) rfl (c_op2 ?_)))))))))
          refine (c_var (e := jI) rfl (c_c (e := jI) (x := 1) rfl (c_pure (e := jI) (x := (at_ + 1)) rfl ?_)))
          refine (c_mon (e := jI) (o_ix (f := .shr)) fun t7 => (c_op2 (c_var (e := (jL .shr jI)) rfl (c_var (e := jI) rfl ?_))))
          refine (c_mon (e := jI) (o_ix (f := .shr)) fun t8 => ?_)
          refine (c_pure (e := jB) (x := (decide (t7 < t8))) rfl (c_dB (c_borM (fun _ => ?_) fun t11 => (c_ite (fun _ => ?_) (fun _ => ?_)))))
          · refine (rf_id (c_tst (c_op2 (c_opN (c_cons (c_slice rfl (c_var (e := (jL .shr jI)) rfl (c_pIs (c_op2 ?_)))))))))
            refine (c_var (e := (jL .shr jI)) rfl (c_var (e := jI) rfl (c_mon (e := jI) (o_ix (f := .shr)) fun t9 => (c_inI ?_))))
            refine (c_pIs (c_op2 (c_op2 (c_var (e := (jL .shr jI)) rfl (c_op2 (c_var (e := jI) rfl (c_c (e := jI) (x := 1) rfl ?_)))))))
            refine (c_pure (e := jI) (x := (at_ + 1)) rfl (c_mon (e := jI) (o_ix (f := .shr)) fun t10 => ?_))
            refine (c_c (e := jI) (x := 1) rfl (c_pure (e := jI) (x := (t10 + 1)) rfl (c_inI ?_)))
            refine (c_pure (e := (jL .own jI)) (x := (cut loads (some t9) (some (t10 + 1)))) o_slice (c_nil ?_))
            refine (c_pure (e := jI) (x := ((cut loads (some t9) (some (t10 + 1))).sum)) o_sum (c_var (e := jI) rfl ?_))
            exact (c_pure (e := jB) (x := (decide (((cut loads (some t9) (some (t10 + 1))).sum) < most))) rfl (c_dB (rf_eq rfl)))
          · exact (s_ret (c_eP (c_c (e := jB) (x := false) rfl (c_nb (e := jB) (x := false) (r_rt (x := false) rfl)))))
          · exact (s_nil (c_wipN [.val false ((jL .shr jI) loads), .val false (jI cranes), .val false (jI most), .val false ((jT (jC jS (j1 (jZ jI (jL .shr jI))))) paper), .val false (jS paper.1), .val false ((jL .shr jI) told2), .emp] rfl rfl (hn ())))

def m__law_cell (script : (List Int)) (k : Int) : R Int :=
  if (decide (k < (script.length : Int))) = true then ((idx script k).bind fun t =>
  .ok (iabs t))
  else (.ok 0)
theorem c__law_cell (script : (List Int)) (k : Int) : Rf (G__law_cell [(jL .shr jI) script, jI k]) (fun z => (jI z, [])) (m__law_cell script k) := by
  refine d_body [.val false ((jL .shr jI) script), .val false (jI k)] rfl rfl (s_seq (s_if (c_eB (c_tst (c_op2 ?_)))))
  refine (c_var (e := jI) rfl (c_opN (c_cons (c_var (e := (jL .shr jI)) rfl (c_nil ?_)))))
  refine (c_pure (e := jI) (x := (script.length : Int)) o_len ?_)
  refine (c_pure (e := jB) (x := (decide (k < (script.length : Int)))) rfl (c_dB (c_ite (fun _ => ?_) (fun _ => ?_))))
  · refine (s_ret (c_eP (c_opN (c_cons (c_opN (c_cons (c_op2 (c_var (e := (jL .shr jI)) rfl (c_var (e := jI) rfl ?_)))))))))
    refine (c_mon (e := jI) (o_ix (f := .shr)) fun t => (c_nil (c_pure (e := jI) (x := t) o_int (c_nil ?_))))
    exact (c_pure (e := jI) (x := (iabs t)) o_abs (c_nb (e := jI) (x := (iabs t)) (r_rt (x := (iabs t)) rfl)))
  · exact (s_nil (s_ret (c_eP (c_c (e := jI) (x := 0) rfl (c_nb (e := jI) (x := 0) (r_rt (x := 0) rfl))))))

def m__law_mixed (seed : Int) (turn : Int) (many : Int) : R Int :=
  (R.ok ((((seed * 48271) + (turn * 69621)) + 40692) % 2147483647)).bind fun one =>
  (mulR one one).bind fun t =>
  (R.ok (((t + (turn * 16807)) + 7) % 2147483629)).bind fun two =>
  (mulR two two).bind fun t2 =>
  (R.ok (((t2 + one) + 3) % 2147483587)).bind fun three =>
  (modR (three / 7) many).bind fun t3 =>
  .ok t3
theorem c__law_mixed (seed : Int) (turn : Int) (many : Int) : Rf (G__law_mixed [jI seed, jI turn, jI many]) (fun z => (jI z, [])) (m__law_mixed seed turn many) := by
  refine d_body [.val false (jI seed), .val false (jI turn), .val false (jI many), .emp, .emp, .emp] rfl rfl (s_seq ?_)
  refine (s_set (c_shr (c_eP (c_op2 (c_opN (c_cons (c_op2 (c_op2 (c_op2 (c_var (e := jI) rfl ?_))))))))))
  refine (c_c (e := jI) (x := 48271) rfl (c_pure (e := jI) (x := (seed * 48271)) (o_mulc ⟨by decide, by decide⟩) (c_op2 ?_)))
  refine (c_var (e := jI) rfl (c_c (e := jI) (x := 69621) rfl ?_))
  refine (c_pure (e := jI) (x := (turn * 69621)) (o_mulc ⟨by decide, by decide⟩) ?_)
  refine (c_pure (e := jI) (x := ((seed * 48271) + (turn * 69621))) rfl (c_c (e := jI) (x := 40692) rfl ?_))
  refine (c_pure (e := jI) (x := (((seed * 48271) + (turn * 69621)) + 40692)) rfl (c_nil ?_))
  refine (c_pure (e := jI) (x := (((seed * 48271) + (turn * 69621)) + 40692)) o_int (c_c (e := jI) (x := 2147483647) rfl ?_))
  refine (c_pure (e := jI) (x := ((((seed * 48271) + (turn * 69621)) + 40692) % 2147483647)) (o_modc (by decide)) (c_nb (e := jI) (x := ((((seed * 48271) + (turn * 69621)) + 40692) % 2147483647)) (c_shrK (e := jI) (x := ((((seed * 48271) + (turn * 69621)) + 40692) % 2147483647)) (c_stoL (e := jI) (t := ((((seed * 48271) + (turn * 69621)) + 40692) % 2147483647)) (fun one => [.val false (jI seed), .val false (jI turn), .val false (jI many), .val false (jI one), .emp, .emp]) rfl (fun _ => rfl) fun one => ?_))))
  refine (s_seq (s_set (c_shr (c_eP (c_op2 (c_opN (c_cons (c_op2 (c_op2 (c_op2 (c_var (e := jI) rfl ?_)))))))))))
  refine (c_var (e := jI) rfl (c_mon (e := jI) o_dMul fun t => (c_op2 (c_var (e := jI) rfl ?_))))
  refine (c_c (e := jI) (x := 16807) rfl (c_pure (e := jI) (x := (turn * 16807)) (o_mulc ⟨by decide, by decide⟩) ?_))
  refine (c_pure (e := jI) (x := (t + (turn * 16807))) rfl (c_c (e := jI) (x := 7) rfl ?_))
  refine (c_pure (e := jI) (x := ((t + (turn * 16807)) + 7)) rfl (c_nil ?_))
  refine (c_pure (e := jI) (x := ((t + (turn * 16807)) + 7)) o_int (c_c (e := jI) (x := 2147483629) rfl ?_))
  refine (c_pure (e := jI) (x := (((t + (turn * 16807)) + 7) % 2147483629)) (o_modc (by decide)) (c_nb (e := jI) (x := (((t + (turn * 16807)) + 7) % 2147483629)) (c_shrK (e := jI) (x := (((t + (turn * 16807)) + 7) % 2147483629)) (c_stoL (e := jI) (t := (((t + (turn * 16807)) + 7) % 2147483629)) (fun two => [.val false (jI seed), .val false (jI turn), .val false (jI many), .val false (jI one), .val false (jI two), .emp]) rfl (fun _ => rfl) fun two => ?_))))
  refine (s_seq (s_set (c_shr (c_eP (c_op2 (c_opN (c_cons (c_op2 (c_op2 (c_op2 (c_var (e := jI) rfl ?_)))))))))))
  refine (c_var (e := jI) rfl (c_mon (e := jI) o_dMul fun t2 => (c_var (e := jI) rfl ?_)))
  refine (c_pure (e := jI) (x := (t2 + one)) rfl (c_c (e := jI) (x := 3) rfl ?_))
  refine (c_pure (e := jI) (x := ((t2 + one) + 3)) rfl (c_nil (c_pure (e := jI) (x := ((t2 + one) + 3)) o_int ?_)))
  refine (c_c (e := jI) (x := 2147483587) rfl ?_)
  refine (c_pure (e := jI) (x := (((t2 + one) + 3) % 2147483587)) (o_modc (by decide)) (c_nb (e := jI) (x := (((t2 + one) + 3) % 2147483587)) (c_shrK (e := jI) (x := (((t2 + one) + 3) % 2147483587)) (c_stoL (e := jI) (t := (((t2 + one) + 3) % 2147483587)) (fun three => [.val false (jI seed), .val false (jI turn), .val false (jI many), .val false (jI one), .val false (jI two), .val false (jI three)]) rfl (fun _ => rfl) fun three => ?_))))
  refine (s_ret (c_eP (c_op2 (c_opN (c_cons (c_op2 (c_var (e := jI) rfl (c_c (e := jI) (x := 7) rfl ?_))))))))
  refine (c_pure (e := jI) (x := (three / 7)) (o_divc (by decide)) (c_nil (c_pure (e := jI) (x := (three / 7)) o_int ?_)))
  exact (c_var (e := jI) rfl (c_mon (e := jI) o_iMod fun t3 => (c_nb (e := jI) (x := t3) (r_rt (x := t3) rfl))))

def m__law_pool (script : (List Int)) (k : Int) : R (Int × Int × Int) :=
  (m__law_cell script k).bind fun cell =>
  if (decide (cell ≥ 1000000000000000000)) = true then (.ok ((cell - 1000000000000000000), (cell % 999999937), 0))
  else (.ok (0, (((cell * 63) + k) % 1000000000000000), 0))
theorem c__law_pool (script : (List Int)) (k : Int) : Rf (G__law_pool [(jL .shr jI) script, jI k]) (fun z => ((jR .own (jC jI (jC jI (j1 jI)))) z, [])) (m__law_pool script k) := by
  refine d_body [.val false ((jL .shr jI) script), .val false (jI k), .emp] rfl rfl (s_seq (s_set (c_shr (c_eP (c_call ?_)))))
  refine (c_cons (c_var (e := (jL .shr jI)) rfl (c_cons (c_var (e := jI) rfl (c_nil ?_)))))
  refine (c_callS (ds := [(jL .shr jI) script, jI k]) (e := jI) (c__law_cell script k) rfl (tg_cons (tg_cons tg_nil)) fun cell => (c_nb (e := jI) (x := cell) (c_shrK (e := jI) (x := cell) (c_sto [.val false ((jL .shr jI) script), .val false (jI k), .val false (jI cell)] rfl rfl ?_))))
  refine (s_seq (s_if (c_eB (c_tst (c_op2 (c_var (e := jI) rfl (c_op2 (c_c (e := jI) (x := 10) rfl ?_))))))))
  refine (c_c (e := jI) (x := 18) rfl (c_pure (e := jI) (x := 1000000000000000000) (o_powc (by decide) (by decide)) ?_))
  refine (c_pure (e := jB) (x := (decide (cell ≥ 1000000000000000000))) rfl (c_dB (c_ite (fun _ => ?_) (fun _ => ?_))))
  · refine (s_ret (c_eP (c_opN (c_cons (c_op2 (c_var (e := jI) rfl (c_op2 (c_c (e := jI) (x := 10) rfl ?_))))))))
    refine (c_c (e := jI) (x := 18) rfl (c_pure (e := jI) (x := 1000000000000000000) (o_powc (by decide) (by decide)) ?_))
    refine (c_pure (e := jI) (x := (cell - 1000000000000000000)) rfl (c_cons (c_op2 (c_opN (c_cons (c_var (e := jI) rfl ?_))))))
    refine (c_nil (c_pure (e := jI) (x := cell) o_int (c_c (e := jI) (x := 999999937) rfl ?_)))
    refine (c_pure (e := jI) (x := (cell % 999999937)) (o_modc (by decide)) (c_cons (c_c (e := jI) (x := 0) rfl (c_nil ?_))))
    exact (c_pure (e := (jR .own (jC jI (jC jI (j1 jI))))) (x := ((cell - 1000000000000000000), (cell % 999999937), 0)) rfl (c_nb (e := (jR .own (jC jI (jC jI (j1 jI))))) (x := ((cell - 1000000000000000000), (cell % 999999937), 0)) (r_rt (x := ((cell - 1000000000000000000), (cell % 999999937), 0)) rfl)))
  · refine (s_nil (s_ret (c_eP (c_opN (c_cons (c_c (e := jI) (x := 0) rfl (c_cons (c_op2 (c_opN (c_cons (c_op2 ?_)))))))))))
    refine (c_op2 (c_var (e := jI) rfl (c_c (e := jI) (x := 63) rfl ?_)))
    refine (c_pure (e := jI) (x := (cell * 63)) (o_mulc ⟨by decide, by decide⟩) (c_var (e := jI) rfl ?_))
    refine (c_pure (e := jI) (x := ((cell * 63) + k)) rfl (c_nil (c_pure (e := jI) (x := ((cell * 63) + k)) o_int (c_op2 ?_))))
    refine (c_c (e := jI) (x := 10) rfl (c_c (e := jI) (x := 15) rfl ?_))
    refine (c_pure (e := jI) (x := 1000000000000000) (o_powc (by decide) (by decide)) ?_)
    refine (c_pure (e := jI) (x := (((cell * 63) + k) % 1000000000000000)) (o_modc (by decide)) (c_cons ?_))
    refine (c_c (e := jI) (x := 0) rfl (c_nil ?_))
    exact (c_pure (e := (jR .own (jC jI (jC jI (j1 jI))))) (x := (0, (((cell * 63) + k) % 1000000000000000), 0)) rfl (c_nb (e := (jR .own (jC jI (jC jI (j1 jI))))) (x := (0, (((cell * 63) + k) % 1000000000000000), 0)) (r_rt (x := (0, (((cell * 63) + k) % 1000000000000000), 0)) rfl)))

def m__law_draw (pool : (Int × Int × Int)) (many : Int) : R (Int × (Int × Int × Int)) :=
  if (decide (pool.1 > 0)) = true then ((modR pool.1 many).bind fun told =>
  (divR pool.1 many).bind fun t =>
  .ok (told, (t, pool.2.1, pool.2.2)))
  else ((m__law_mixed pool.2.1 (pool.2.2 + 1) many).bind fun t2 =>
  .ok (t2, (pool.1, pool.2.1, (pool.2.2 + 1))))
theorem c__law_draw (pool : (Int × Int × Int)) (many : Int) : Rf (G__law_draw [(jR .own (jC jI (jC jI (j1 jI)))) pool, jI many]) (fun z => (jI z.1, [(jR .own (jC jI (jC jI (j1 jI)))) z.2])) (m__law_draw pool many) := by
  refine d_body [.val true ((jR .own (jC jI (jC jI (j1 jI)))) pool), .val false (jI many), .emp] rfl rfl (s_seq (s_wipA ?_))
  refine (s_if (c_eB (c_tst (c_op2 (c_op2 (c_var (e := (jR .own (jC jI (jC jI (j1 jI))))) rfl ?_))))))
  refine (c_c (e := jI) (x := 0) rfl (c_pure (e := jI) (x := pool.1) rfl (c_c (e := jI) (x := 0) rfl ?_)))
  refine (c_pure (e := jB) (x := (decide (pool.1 > 0))) rfl (c_dB (c_ite (fun _ => ?_) (fun _ => ?_))))
  · refine (s_seq (s_set (c_eP (c_op2 (c_opN (c_cons (c_op2 (c_var (e := (jR .own (jC jI (jC jI (j1 jI))))) rfl ?_))))))))
    refine (c_c (e := jI) (x := 0) rfl (c_pure (e := jI) (x := pool.1) rfl (c_nil (c_pure (e := jI) (x := pool.1) o_int ?_))))
    refine (c_var (e := jI) rfl ?_)
    refine (c_mon (e := jI) o_iMod fun told => (c_nb (e := jI) (x := told) (c_sto [.val true ((jR .own (jC jI (jC jI (j1 jI)))) pool), .val false (jI many), .val false (jI told)] rfl rfl ?_)))
    refine (s_seq (s_sub (c_eP (c_op2 (c_op2 (c_var (e := (jR .own (jC jI (jC jI (j1 jI))))) rfl ?_))))))
    refine (c_c (e := jI) (x := 0) rfl (c_pure (e := jI) (x := pool.1) rfl (c_var (e := jI) rfl ?_)))
    refine (c_mon (e := jI) o_iDiv fun t => (c_nb (e := jI) (x := t) (c_chk rfl (c_eP ?_))))
    refine (c_c (e := jI) (x := 0) rfl (c_nb (e := jI) (x := 0) (c_subR (e := (jR .own (jC jI (jC jI (j1 jI))))) (x := (t, pool.2.1, pool.2.2)) (ρ2 := [.val true ((jR .own (jC jI (jC jI (j1 jI)))) (t, pool.2.1, pool.2.2)), .val false (jI many), .val false (jI told)]) rfl rfl rfl ?_)))
    refine (s_ret ?_)
    exact (c_move (e := jI) (x := told) (ρ2 := [.val true ((jR .own (jC jI (jC jI (j1 jI)))) (t, pool.2.1, pool.2.2)), .val false (jI many), .emp]) rfl rfl (r_rt (x := (told, (t, pool.2.1, pool.2.2))) rfl))
  · refine (s_nil (c_wipN [.val true ((jR .own (jC jI (jC jI (j1 jI)))) pool), .val false (jI many), .emp] rfl rfl (s_seq ?_)))
    refine (s_sub (c_eP (c_op2 (c_op2 (c_var (e := (jR .own (jC jI (jC jI (j1 jI))))) rfl (c_c (e := jI) (x := 2) rfl ?_))))))
    refine (c_pure (e := jI) (x := pool.2.2) rfl (c_c (e := jI) (x := 1) rfl ?_))
    refine (c_pure (e := jI) (x := (pool.2.2 + 1)) rfl (c_nb (e := jI) (x := (pool.2.2 + 1)) (c_chk rfl (c_eP ?_))))
    refine (c_c (e := jI) (x := 2) rfl (c_nb (e := jI) (x := 2) (c_subR (e := (jR .own (jC jI (jC jI (j1 jI))))) (x := (pool.1, pool.2.1, (pool.2.2 + 1))) (ρ2 := [.val true ((jR .own (jC jI (jC jI (j1 jI)))) (pool.1, pool.2.1, (pool.2.2 + 1))), .val false (jI many), .emp]) rfl rfl rfl ?_)))
    refine (s_ret (c_eP (c_call (c_cons (c_op2 (c_var (e := (jR .own (jC jI (jC jI (j1 jI))))) rfl ?_))))))
    refine (c_c (e := jI) (x := 1) rfl (c_pure (e := jI) (x := pool.2.1) rfl (c_cons (c_op2 ?_))))
    refine (c_var (e := (jR .own (jC jI (jC jI (j1 jI))))) rfl (c_c (e := jI) (x := 2) rfl ?_))
    refine (c_pure (e := jI) (x := (pool.2.2 + 1)) rfl (c_cons (c_var (e := jI) rfl (c_nil ?_))))
    exact (c_callS (ds := [jI pool.2.1, jI (pool.2.2 + 1), jI many]) (e := jI) (c__law_mixed pool.2.1 (pool.2.2 + 1) many) rfl (tg_cons (tg_cons (tg_cons tg_nil))) fun t2 => (c_nb (e := jI) (x := t2) (r_rt (x := (t2, (pool.1, pool.2.1, (pool.2.2 + 1)))) rfl)))

def m__law_chance (pool : (Int × Int × Int)) (one : Int) (of_ : Int) : R (Bool × (Int × Int × Int)) :=
  (m__law_draw pool of_).bind fun (t, pool2) =>
  .ok ((decide (t < one)), pool2)
theorem c__law_chance (pool : (Int × Int × Int)) (one : Int) (of_ : Int) : Rf (G__law_chance [(jR .own (jC jI (jC jI (j1 jI)))) pool, jI one, jI of_]) (fun z => (jB z.1, [(jR .own (jC jI (jC jI (j1 jI)))) z.2])) (m__law_chance pool one of_) := by
  refine d_body [.val true ((jR .own (jC jI (jC jI (j1 jI)))) pool), .val false (jI one), .val false (jI of_)] rfl rfl ?_
  refine (s_ret (c_eop2 (c_ecallm (c_chk rfl (c_econs (c_eP (c_var (e := jI) rfl (c_nb (e := jI) (x := of_) ?_))))))))
  refine (c_enil ?_)
  refine (c_callM (ds := [jI of_]) (ρ := [.val true ((jR .own (jC jI (jC jI (j1 jI)))) pool), .val false (jI one), .val false (jI of_)]) (e := jI) (em := (jR .own (jC jI (jC jI (j1 jI))))) (fun pool2 => [.val true ((jR .own (jC jI (jC jI (j1 jI)))) pool2), .val false (jI one), .val false (jI of_)]) (c__law_draw pool of_) rfl rfl (tg_cons tg_nil) (fun _ => rfl) fun t pool2 => ?_)
  refine (c_eP (c_var (e := jI) rfl (c_nb (e := jI) (x := one) ?_)))
  exact (c_pure (e := jB) (x := (decide (t < one))) rfl (r_rt (x := ((decide (t < one)), pool2)) rfl))

def m__law_pick (pool : (Int × Int × Int)) (xs : (List Int)) : R (Int × (Int × Int × Int)) :=
  (m__law_draw pool (xs.length : Int)).bind fun (t, pool2) =>
  (idx xs t).bind fun t2 =>
  .ok (t2, pool2)
theorem c__law_pick (pool : (Int × Int × Int)) (xs : (List Int)) : Rf (G__law_pick [(jR .own (jC jI (jC jI (j1 jI)))) pool, (jL .shr jI) xs]) (fun z => (jI z.1, [(jR .own (jC jI (jC jI (j1 jI)))) z.2])) (m__law_pick pool xs) := by
  refine d_body [.val true ((jR .own (jC jI (jC jI (j1 jI)))) pool), .val false ((jL .shr jI) xs)] rfl rfl (s_ret (c_eop2 ?_))
  refine (c_eP (c_var (e := (jL .shr jI)) rfl (c_nb (e := (jL .shr jI)) (x := xs) (c_ecallm (c_chk rfl (c_econs ?_))))))
  refine (c_eP (c_opN (c_cons (c_var (e := (jL .shr jI)) rfl (c_nil ?_)))))
  refine (c_pure (e := jI) (x := (xs.length : Int)) o_len (c_nb (e := jI) (x := (xs.length : Int)) (c_enil ?_)))
  refine (c_callM (ds := [jI (xs.length : Int)]) (ρ := [.val true ((jR .own (jC jI (jC jI (j1 jI)))) pool), .val false ((jL .shr jI) xs)]) (e := jI) (em := (jR .own (jC jI (jC jI (j1 jI))))) (fun pool2 => [.val true ((jR .own (jC jI (jC jI (j1 jI)))) pool2), .val false ((jL .shr jI) xs)]) (c__law_draw pool (xs.length : Int)) rfl rfl (tg_cons tg_nil) (fun _ => rfl) fun t pool2 => ?_)
  exact (c_mon (e := jI) (o_ix (f := .shr)) fun t2 => (r_rt (x := (t2, pool2)) rfl))

def m__law_least_most (loads : (List Int)) (cranes : Int) : R Int :=
  (lrI 1 (loads.length : Int)).bind fun ends =>
  (rngR (cranes - 1)).bind fun ks =>
  forC (fun (turn : Int) (s : (List Int) × (List (List Int))) (nx_ : ((List Int) × (List (List Int))) → R Int) (bk_ : ((List Int) × (List (List Int))) → R Int) =>
  match s with | (best_sums, cuts) => (forC (fun (row : (List Int)) (longer : (List (List Int))) (nx_2 : ((List (List Int))) → R Int) (bk_2 : ((List (List Int))) → R Int) =>
  forC (fun (end_ : Int) (longer2 : (List (List Int))) (nx_3 : ((List (List Int))) → R Int) (bk_3 : ((List (List Int))) → R Int) =>
  (if (decide ((row.length : Int) = 0)) = true then .ok true else ((idx row (-1)).bind fun t =>
  .ok (decide (end_ > t))) : R Bool).bind fun t2 =>
  if t2 = true then ((catR row [end_]).bind fun t3 =>
  (appR longer2 t3).bind fun longer3 =>
  nx_3 longer3)
  else (nx_3 longer2))
  (fun longer2 =>
  nx_2 longer2) ends longer)
  (fun longer =>
  forC (fun (row2 : (List Int)) (best_sums2 : (List Int)) (nx_4 : ((List Int)) → R Int) (bk_4 : ((List Int)) → R Int) =>
  (catR [0] row2).bind fun t4 =>
  (catR t4 [(loads.length : Int)]).bind fun spots =>
  (rngR ((spots.length : Int) - 1)).bind fun ks2 =>
  (lcM (fun j => .ok true) (fun j => (idx spots j).bind fun t5 =>
  (idx spots (j + 1)).bind fun t6 =>
  .ok ((cut loads (some t5) (some t6)).sum)) ks2 []).bind fun t7 =>
  (maxR t7).bind fun t8 =>
  (appR best_sums2 t8).bind fun best_sums3 =>
  nx_4 best_sums3)
  (fun best_sums2 =>
  nx_ (best_sums2, longer)) longer best_sums) cuts []))
  (fun (best_sums, cuts) =>
  (minR best_sums).bind fun t9 =>
  .ok t9) ks ([(loads.sum)], [[]])
theorem c__law_least_most (loads : (List Int)) (cranes : Int) : Rf (G__law_least_most [(jL .shr jI) loads, jI cranes]) (fun z => (jI z, [])) (m__law_least_most loads cranes) := by
  refine d_body [.val false ((jL .shr jI) loads), .val false (jI cranes), .emp, .emp, .emp, .emp, .emp, .emp, .emp, .emp, .emp] rfl rfl ?_
  refine (s_seq (s_set (c_eP (c_opN (c_cons (c_opN (c_cons (c_var (e := (jL .shr jI)) rfl (c_nil ?_)))))))))
  refine (c_pure (e := jI) (x := (loads.sum)) o_sum (c_nil ?_))
  refine (c_pure (e := (jL .own jI)) (x := [(loads.sum)]) rfl (c_nb (e := (jL .own jI)) (x := [(loads.sum)]) (c_sto [.val false ((jL .shr jI) loads), .val false (jI cranes), .val false ((jL .own jI) [(loads.sum)]), .emp, .emp, .emp, .emp, .emp, .emp, .emp, .emp] rfl rfl ?_)))
  refine (s_seq (s_set (c_shr (c_eP (c_pLR2 (c_c (e := jI) (x := 1) rfl (c_opN (c_cons ?_))))))))
  refine (c_var (e := (jL .shr jI)) rfl (c_nil ?_))
  refine (c_pure (e := jI) (x := (loads.length : Int)) o_len (c_lrR2 fun ends => (c_nb (e := (jL .own jI)) (x := ends) (c_shrK (e := (jL .own jI)) (x := ends) (c_sto [.val false ((jL .shr jI) loads), .val false (jI cranes), .val false ((jL .own jI) [(loads.sum)]), .val false ((jL .shr jI) ends), .emp, .emp, .emp, .emp, .emp, .emp, .emp] rfl rfl ?_)))))
  refine (s_seq (s_set (c_shr (c_eP (c_opN (c_cons (c_opN (c_nil (c_pure (e := (jL .own jI)) (x := []) rfl (c_nil ?_))))))))))
  refine (c_pure (e := (jL .own (jL .own jI))) (x := [[]]) rfl (c_nb (e := (jL .own (jL .own jI))) (x := [[]]) (c_shrK (e := (jL .own (jL .own jI))) (x := [[]]) (c_sto [.val false ((jL .shr jI) loads), .val false (jI cranes), .val false ((jL .own jI) [(loads.sum)]), .val false ((jL .shr jI) ends), .val false ((jL .shr (jL .shr jI)) [[]]), .emp, .emp, .emp, .emp, .emp, .emp] rfl rfl ?_))))
  refine (s_seq ?_)
  refine (s_wipe [.val false ((jL .shr jI) loads), .val false (jI cranes), .val false ((jL .own jI) [(loads.sum)]), .val false ((jL .shr jI) ends), .val false ((jL .shr (jL .shr jI)) [[]]), .emp, .emp, .emp, .emp, .emp, .emp] rfl rfl ?_)
  refine (s_for (c_iRng1 (c_eP (c_op2 (c_var (e := jI) rfl (c_c (e := jI) (x := 1) rfl ?_))))))
  refine (c_pure (e := jI) (x := (cranes - 1)) rfl (c_nb (e := jI) (x := (cranes - 1)) (c_i1 fun ks => ?_)))
  refine (c_forL (e := jI) (s0 := ([(loads.sum)], [[]])) (fun s : (List Int) × (List (List Int)) => [.val false ((jL .shr jI) loads), .val false (jI cranes), .val false ((jL .own jI) s.1), .val false ((jL .shr jI) ends), .val false ((jL .shr (jL .shr jI)) s.2), .emp, .emp, .emp, .emp, .emp, .emp]) (fun ⟨best_sums, cuts⟩ => ?_) fun turn ⟨best_sums, cuts⟩ nx_ bk_ NX hn hk => (c_tg [.val false ((jL .shr jI) loads), .val false (jI cranes), .val false ((jL .own jI) best_sums), .val false ((jL .shr jI) ends), .val false ((jL .shr (jL .shr jI)) cuts), .val false (jI turn), .emp, .emp, .emp, .emp, .emp] rfl ?_))
  · refine (s_frz (ρ2 := [.val false ((jL .shr jI) loads), .val false (jI cranes), .val false ((jL .shr jI) best_sums), .val false ((jL .shr jI) ends), .val false ((jL .shr (jL .shr jI)) cuts), .emp, .emp, .emp, .emp, .emp, .emp]) (frzs_cons (ρ' := [.val false ((jL .shr jI) loads), .val false (jI cranes), .val false ((jL .shr jI) best_sums), .val false ((jL .shr jI) ends), .val false ((jL .shr (jL .shr jI)) cuts), .emp, .emp, .emp, .emp, .emp, .emp]) (frz_at (e := (jL .own jI)) rfl rfl) frzs_nil) ?_)
    refine (s_ret (c_eP (c_opN (c_cons (c_var (e := (jL .shr jI)) rfl (c_nil ?_))))))
    exact (c_mon (e := jI) o_min fun t9 => (c_nb (e := jI) (x := t9) (r_rt (x := t9) rfl)))
  · refine (s_wipA (s_seq (s_set (c_eP (c_opN (c_nil ?_))))))
    refine (c_pure (e := (jL .own (jL .own jI))) (x := []) rfl (c_nb (e := (jL .own (jL .own jI))) (x := []) (c_sto [.val false ((jL .shr jI) loads), .val false (jI cranes), .val false ((jL .own jI) best_sums), .val false ((jL .shr jI) ends), .val false ((jL .shr (jL .shr jI)) cuts), .val false (jI turn), .val false ((jL .own (jL .own jI)) []), .emp, .emp, .emp, .emp] rfl rfl ?_)))
    refine (s_seq ?_)
    refine (s_wipe [.val false ((jL .shr jI) loads), .val false (jI cranes), .val false ((jL .own jI) best_sums), .val false ((jL .shr jI) ends), .val false ((jL .shr (jL .shr jI)) cuts), .val false (jI turn), .val false ((jL .own (jL .own jI)) []), .emp, .emp, .emp, .emp] rfl rfl ?_)
    refine (s_for (c_iLst (c_eP (c_opN (c_cons (c_var (e := (jL .shr (jL .shr jI))) rfl (c_nil ?_)))))))
    refine (c_pure (e := (jL .own (jL .shr jI))) (x := cuts) o_list (c_nb (e := (jL .own (jL .shr jI))) (x := cuts) (c_lstI (e := (jL .shr jI)) (f := .own) (xs := cuts) ?_)))
    refine (c_forL (e := (jL .shr jI)) (s0 := []) (fun s : (List (List Int)) => [.val false ((jL .shr jI) loads), .val false (jI cranes), .val false ((jL .own jI) best_sums), .val false ((jL .shr jI) ends), .val false ((jL .shr (jL .shr jI)) cuts), .val false (jI turn), .val false ((jL .own (jL .own jI)) s), .emp, .emp, .emp, .emp]) (fun longer => ?_) fun row longer nx_2 bk_2 NX hn hk => (c_tg [.val false ((jL .shr jI) loads), .val false (jI cranes), .val false ((jL .own jI) best_sums), .val false ((jL .shr jI) ends), .val false ((jL .shr (jL .shr jI)) cuts), .val false (jI turn), .val false ((jL .own (jL .own jI)) longer), .val false ((jL .shr jI) row), .emp, .emp, .emp] rfl ?_))
    · refine (s_seq ?_)
      refine (s_frz (ρ2 := [.val false ((jL .shr jI) loads), .val false (jI cranes), .val false ((jL .own jI) best_sums), .val false ((jL .shr jI) ends), .val false ((jL .shr (jL .shr jI)) cuts), .val false (jI turn), .val false ((jL .shr (jL .shr jI)) longer), .emp, .emp, .emp, .emp]) (frzs_cons (ρ' := [.val false ((jL .shr jI) loads), .val false (jI cranes), .val false ((jL .own jI) best_sums), .val false ((jL .shr jI) ends), .val false ((jL .shr (jL .shr jI)) cuts), .val false (jI turn), .val false ((jL .shr (jL .shr jI)) longer), .emp, .emp, .emp, .emp]) (frz_at (e := (jL .own (jL .own jI))) rfl rfl) frzs_nil) ?_)
      refine (s_wipe [.val false ((jL .shr jI) loads), .val false (jI cranes), .val false ((jL .own jI) best_sums), .val false ((jL .shr jI) ends), .val false ((jL .shr (jL .shr jI)) cuts), .val false (jI turn), .val false ((jL .shr (jL .shr jI)) longer), .emp, .emp, .emp, .emp] rfl rfl ?_)
      refine (s_for (c_iLst (c_eP ?_)))
      refine (c_var (e := (jL .shr (jL .shr jI))) rfl (c_nb (e := (jL .shr (jL .shr jI))) (x := longer) (c_lstI (e := (jL .shr jI)) (f := .shr) (xs := longer) ?_)))
      refine (c_forL (e := (jL .shr jI)) (s0 := best_sums) (fun s : (List Int) => [.val false ((jL .shr jI) loads), .val false (jI cranes), .val false ((jL .own jI) s), .val false ((jL .shr jI) ends), .val false ((jL .shr (jL .shr jI)) cuts), .val false (jI turn), .val false ((jL .shr (jL .shr jI)) longer), .emp, .emp, .emp, .emp]) (fun best_sums2 => ?_) fun row2 best_sums2 nx_4 bk_4 NX hn hk => (c_tg [.val false ((jL .shr jI) loads), .val false (jI cranes), .val false ((jL .own jI) best_sums2), .val false ((jL .shr jI) ends), .val false ((jL .shr (jL .shr jI)) cuts), .val false (jI turn), .val false ((jL .shr (jL .shr jI)) longer), .val false ((jL .shr jI) row2), .emp, .emp, .emp] rfl ?_))
      · refine (s_set (c_shr (c_eP ?_)))
        exact (c_var (e := (jL .shr (jL .shr jI))) rfl (c_nb (e := (jL .shr (jL .shr jI))) (x := longer) (c_shrK (e := (jL .shr (jL .shr jI))) (x := longer) (c_sto [.val false ((jL .shr jI) loads), .val false (jI cranes), .val false ((jL .own jI) best_sums2), .val false ((jL .shr jI) ends), .val false ((jL .shr (jL .shr jI)) longer), .val false (jI turn), .val false ((jL .shr (jL .shr jI)) longer), .emp, .emp, .emp, .emp] rfl rfl (c_wipN [.val false ((jL .shr jI) loads), .val false (jI cranes), .val false ((jL .own jI) best_sums2), .val false ((jL .shr jI) ends), .val false ((jL .shr (jL .shr jI)) longer), .emp, .emp, .emp, .emp, .emp, .emp] rfl rfl (hn (best_sums2, longer)))))))
      · refine (s_wipA (s_seq (s_set (c_shr (c_eP (c_op2 (c_op2 (c_opN (c_cons (c_c (e := jI) (x := 0) rfl (c_nil ?_)))))))))))
        refine (c_pure (e := (jL .own jI)) (x := [0]) rfl (c_var (e := (jL .shr jI)) rfl ?_))
        refine (c_mon (e := (jL .own jI)) (o_cat (f := .own) (g := .shr) (e := jI) (xs := [0]) (ys := row2)) fun t4 => (c_opN ?_))
        refine (c_cons (c_opN (c_cons (c_var (e := (jL .shr jI)) rfl (c_nil ?_)))))
        refine (c_pure (e := jI) (x := (loads.length : Int)) o_len (c_nil ?_))
        refine (c_pure (e := (jL .own jI)) (x := [(loads.length : Int)]) rfl ?_)
        refine (c_mon (e := (jL .own jI)) (o_cat (f := .own) (g := .own) (e := jI) (xs := t4) (ys := [(loads.length : Int)])) fun spots => (c_nb (e := (jL .own jI)) (x := spots) (c_shrK (e := (jL .own jI)) (x := spots) (c_sto [.val false ((jL .shr jI) loads), .val false (jI cranes), .val false ((jL .own jI) best_sums2), .val false ((jL .shr jI) ends), .val false ((jL .shr (jL .shr jI)) cuts), .val false (jI turn), .val false ((jL .shr (jL .shr jI)) longer), .val false ((jL .shr jI) row2), .emp, .val false ((jL .shr jI) spots), .emp] rfl rfl ?_))))
        refine (s_expr (c_mut (c_chkO rfl (c_econs (c_eopN (c_econs (c_lc (c_iRng1 (c_eP (c_op2 (c_opN (c_cons ?_))))))))))))
        refine (c_var (e := (jL .shr jI)) rfl (c_nil (c_pure (e := jI) (x := (spots.length : Int)) o_len ?_)))
        refine (c_c (e := jI) (x := 1) rfl ?_)
        refine (c_pure (e := jI) (x := ((spots.length : Int) - 1)) rfl (c_nb (e := jI) (x := ((spots.length : Int) - 1)) (c_i1 fun ks2 => (c_lcM (ey := jI) (fun j => [.val false ((jL .shr jI) loads), .val false (jI cranes), .val false ((jL .own jI) best_sums2), .val false ((jL .shr jI) ends), .val false ((jL .shr (jL .shr jI)) cuts), .val false (jI turn), .val false ((jL .shr (jL .shr jI)) longer), .val false ((jL .shr jI) row2), .emp, .val false ((jL .shr jI) spots), .val false (jI j)]) rfl (fun _ => rfl) (fun j => (rf_eq rfl)) (fun j => (rf_id ?_)) (fun _ => rfl) fun t7 => ?_))))
        · refine (c_eP (c_opN (c_cons (c_slice rfl (c_var (e := (jL .shr jI)) rfl (c_pIs (c_op2 ?_)))))))
          refine (c_var (e := (jL .shr jI)) rfl (c_var (e := jI) rfl (c_mon (e := jI) (o_ix (f := .shr)) fun t5 => (c_inI ?_))))
          refine (c_pIs (c_op2 (c_var (e := (jL .shr jI)) rfl (c_op2 (c_var (e := jI) rfl (c_c (e := jI) (x := 1) rfl ?_))))))
          refine (c_pure (e := jI) (x := (j + 1)) rfl (c_mon (e := jI) (o_ix (f := .shr)) fun t6 => (c_inI ?_)))
          refine (c_pure (e := (jL .own jI)) (x := (cut loads (some t5) (some t6))) o_slice (c_nil ?_))
          exact (c_pure (e := jI) (x := ((cut loads (some t5) (some t6)).sum)) o_sum (c_nb (e := jI) (x := ((cut loads (some t5) (some t6)).sum)) (rf_eq rfl)))
        · refine (c_enil (c_mon (e := jI) o_max fun t8 => ?_))
          exact (c_enil (c_mutK (ed := (jL .own jI)) (er := fun _ => jU ()) (fun best_sums3 => [.val false ((jL .shr jI) loads), .val false (jI cranes), .val false ((jL .own jI) best_sums3), .val false ((jL .shr jI) ends), .val false ((jL .shr (jL .shr jI)) cuts), .val false (jI turn), .val false ((jL .shr (jL .shr jI)) longer), .val false ((jL .shr jI) row2), .emp, .val false ((jL .shr jI) spots), .emp]) rfl (o_app (e := jI) (x := t8)) (fun _ => rfl) fun best_sums3 => (c_wipN [.val false ((jL .shr jI) loads), .val false (jI cranes), .val false ((jL .own jI) best_sums3), .val false ((jL .shr jI) ends), .val false ((jL .shr (jL .shr jI)) cuts), .val false (jI turn), .val false ((jL .shr (jL .shr jI)) longer), .emp, .emp, .emp, .emp] rfl rfl (hn best_sums3))))
    · refine (s_wipA ?_)
      refine (s_wipe [.val false ((jL .shr jI) loads), .val false (jI cranes), .val false ((jL .own jI) best_sums), .val false ((jL .shr jI) ends), .val false ((jL .shr (jL .shr jI)) cuts), .val false (jI turn), .val false ((jL .own (jL .own jI)) longer), .val false ((jL .shr jI) row), .emp, .emp, .emp] rfl rfl ?_)
      refine (s_for (c_iLst (c_eP ?_)))
      refine (c_var (e := (jL .shr jI)) rfl (c_nb (e := (jL .shr jI)) (x := ends) (c_lstI (e := jI) (f := .shr) (xs := ends) ?_)))
      refine (c_forL (e := jI) (s0 := longer) (fun s : (List (List Int)) => [.val false ((jL .shr jI) loads), .val false (jI cranes), .val false ((jL .own jI) best_sums), .val false ((jL .shr jI) ends), .val false ((jL .shr (jL .shr jI)) cuts), .val false (jI turn), .val false ((jL .own (jL .own jI)) s), .val false ((jL .shr jI) row), .emp, .emp, .emp]) (fun longer2 => (c_wipN [.val false ((jL .shr jI) loads), .val false (jI cranes), .val false ((jL .own jI) best_sums), .val false ((jL .shr jI) ends), .val false ((jL .shr (jL .shr jI)) cuts), .val false (jI turn), .val false ((jL .own (jL .own jI)) longer2), .emp, .emp, .emp, .emp] rfl rfl (hn longer2))) fun end_ longer2 nx_3 bk_3 NX hn hk => (c_tg [.val false ((jL .shr jI) loads), .val false (jI cranes), .val false ((jL .own jI) best_sums), .val false ((jL .shr jI) ends), .val false ((jL .shr (jL .shr jI)) cuts), .val false (jI turn), .val false ((jL .own (jL .own jI)) longer2), .val false ((jL .shr jI) row), .val false (jI end_), .emp, .emp] rfl ?_))
      refine (s_wipA (s_if (c_eB (c_or (c_tst (c_op2 (c_opN (c_cons (c_var (e := (jL .shr jI)) rfl (c_nil ?_))))))))))
      refine (c_pure (e := jI) (x := (row.length : Int)) o_len (c_c (e := jI) (x := 0) rfl ?_))
      refine (c_pure (e := jB) (x := (decide ((row.length : Int) = 0))) (o_eq (e := jI) (e' := jI) (x := (row.length : Int)) (y := 0)) (c_dB (c_borM (fun _ => ?_) fun t2 => (c_ite (fun _ => ?_) (fun _ => ?_)))))
      · refine (rf_id (c_tst (c_op2 (c_var (e := jI) rfl (c_op2 (c_var (e := (jL .shr jI)) rfl (c_op1 ?_)))))))
        refine (c_c (e := jI) (x := 1) rfl (c_pure (e := jI) (x := (-1)) rfl (c_mon (e := jI) (o_ix (f := .shr)) fun t => ?_)))
        exact (c_pure (e := jB) (x := (decide (end_ > t))) rfl (c_dB (rf_eq rfl)))
      · refine (s_expr (c_mut (c_chkO rfl (c_econs (c_eP (c_op2 (c_var (e := (jL .shr jI)) rfl (c_opN (c_cons ?_)))))))))
        refine (c_var (e := jI) rfl (c_nil (c_pure (e := (jL .own jI)) (x := [end_]) rfl ?_)))
        refine (c_mon (e := (jL .own jI)) (o_cat (f := .shr) (g := .own) (e := jI) (xs := row) (ys := [end_])) fun t3 => (c_nb (e := (jL .own jI)) (x := t3) ?_))
        exact (c_enil (c_mutK (ed := (jL .own (jL .own jI))) (er := fun _ => jU ()) (fun longer3 => [.val false ((jL .shr jI) loads), .val false (jI cranes), .val false ((jL .own jI) best_sums), .val false ((jL .shr jI) ends), .val false ((jL .shr (jL .shr jI)) cuts), .val false (jI turn), .val false ((jL .own (jL .own jI)) longer3), .val false ((jL .shr jI) row), .val false (jI end_), .emp, .emp]) rfl (o_app (e := (jL .own jI)) (x := t3)) (fun _ => rfl) fun longer3 => (c_wipN [.val false ((jL .shr jI) loads), .val false (jI cranes), .val false ((jL .own jI) best_sums), .val false ((jL .shr jI) ends), .val false ((jL .shr (jL .shr jI)) cuts), .val false (jI turn), .val false ((jL .own (jL .own jI)) longer3), .val false ((jL .shr jI) row), .emp, .emp, .emp] rfl rfl (hn longer3))))
      · exact (s_nil (c_wipN [.val false ((jL .shr jI) loads), .val false (jI cranes), .val false ((jL .own jI) best_sums), .val false ((jL .shr jI) ends), .val false ((jL .shr (jL .shr jI)) cuts), .val false (jI turn), .val false ((jL .own (jL .own jI)) longer2), .val false ((jL .shr jI) row), .emp, .emp, .emp] rfl rfl (hn longer2)))

def m__law_due (loads : (List Int)) (cranes : Int) : R (Int × (List (Int × Int)) × (PySem.Str × (Int ⊕ (List Int)))) :=
  (m__law_least_most loads cranes).bind fun most =>
  (R.ok (loads.length : Int)).bind fun many =>
  (rngR many).bind fun ks =>
  forC (fun (turn : Int) (s : (List (Int × Int)) × Int) (nx_ : ((List (Int × Int)) × Int) → R (Int × (List (Int × Int)) × (PySem.Str × (Int ⊕ (List Int))))) (bk_ : ((List (Int × Int)) × Int) → R (Int × (List (Int × Int)) × (PySem.Str × (Int ⊕ (List Int))))) =>
  match s with | (cuts, first) => (if (decide (first < many)) = true then ((rng2R first many).bind fun ks2 =>
  (filtP (fun p => (decide (((cut loads (some first) (some (p + 1))).sum) ≤ most))) (fun p => p) ks2).bind fun t =>
  (maxR t).bind fun last =>
  (appR cuts (first, last)).bind fun cuts2 =>
  (R.ok (last + 1)).bind fun first2 =>
  nx_ (cuts2, first2))
  else (nx_ (cuts, first))))
  (fun (cuts, first) =>
  if (decide (most ∈ loads)) = true then ((indexR loads most).bind fun t2 =>
  .ok (most, cuts, ((Str.ofString "bay"), (Sum.inl t2))))
  else ((rngR cranes).bind fun ks3 =>
  forC (fun (turn2 : Int) (spots : (List Int)) (nx_2 : ((List Int)) → R (Int × (List (Int × Int)) × (PySem.Str × (Int ⊕ (List Int))))) (bk_2 : ((List Int)) → R (Int × (List (Int × Int)) × (PySem.Str × (Int ⊕ (List Int))))) =>
  (idx spots turn2).bind fun spot =>
  (rng2R spot many).bind fun ks4 =>
  (filtP (fun p2 => (decide (((cut loads (some spot) (some (p2 + 1))).sum) ≥ most))) (fun p2 => p2) ks4).bind fun t3 =>
  (minR t3).bind fun t4 =>
  (appR spots t4).bind fun spots2 =>
  nx_2 spots2)
  (fun spots =>
  .ok (most, cuts, ((Str.ofString "starts"), (Sum.inr spots)))) ks3 [0])) ks ([], 0)
theorem c__law_due (loads : (List Int)) (cranes : Int) : Rf (G__law_due [(jL .shr jI) loads, jI cranes]) (fun z => ((jT (jC jI (jC (jL .shr (jT (jC jI (j1 jI)))) (j1 (jT (jC jS (j1 (jZ jI (jL .shr jI))))))))) z, [])) (m__law_due loads cranes) := by
  refine d_body [.val false ((jL .shr jI) loads), .val false (jI cranes), .emp, .emp, .emp, .emp, .emp, .emp, .emp, .emp, .emp] rfl rfl ?_
  refine (s_seq (s_set (c_shr (c_eP (c_call (c_cons (c_var (e := (jL .shr jI)) rfl (c_cons (c_var (e := jI) rfl ?_)))))))))
  refine (c_nil ?_)
  refine (c_callS (ds := [(jL .shr jI) loads, jI cranes]) (e := jI) (c__law_least_most loads cranes) rfl (tg_cons (tg_cons tg_nil)) fun most => (c_nb (e := jI) (x := most) (c_shrK (e := jI) (x := most) (c_sto [.val false ((jL .shr jI) loads), .val false (jI cranes), .val false (jI most), .emp, .emp, .emp, .emp, .emp, .emp, .emp, .emp] rfl rfl ?_))))
  refine (s_seq (s_set (c_shr (c_eP (c_opN (c_cons (c_var (e := (jL .shr jI)) rfl (c_nil ?_))))))))
  refine (c_pure (e := jI) (x := (loads.length : Int)) o_len (c_nb (e := jI) (x := (loads.length : Int)) (c_shrK (e := jI) (x := (loads.length : Int)) (c_stoL (e := jI) (t := (loads.length : Int)) (fun many => [.val false ((jL .shr jI) loads), .val false (jI cranes), .val false (jI most), .val false (jI many), .emp, .emp, .emp, .emp, .emp, .emp, .emp]) rfl (fun _ => rfl) fun many => ?_))))
  refine (s_seq (s_set (c_eP (c_opN (c_nil ?_)))))
  refine (c_pure (e := (jL .own (jT (jC jI (j1 jI))))) (x := []) rfl (c_nb (e := (jL .own (jT (jC jI (j1 jI))))) (x := []) (c_sto [.val false ((jL .shr jI) loads), .val false (jI cranes), .val false (jI most), .val false (jI many), .val false ((jL .own (jT (jC jI (j1 jI)))) []), .emp, .emp, .emp, .emp, .emp, .emp] rfl rfl ?_)))
  refine (s_seq (s_set (c_shr (c_eP ?_))))
  refine (c_c (e := jI) (x := 0) rfl (c_nb (e := jI) (x := 0) (c_shrK (e := jI) (x := 0) (c_sto [.val false ((jL .shr jI) loads), .val false (jI cranes), .val false (jI most), .val false (jI many), .val false ((jL .own (jT (jC jI (j1 jI)))) []), .val false (jI 0), .emp, .emp, .emp, .emp, .emp] rfl rfl ?_))))
  refine (s_seq ?_)
  refine (s_wipe [.val false ((jL .shr jI) loads), .val false (jI cranes), .val false (jI most), .val false (jI many), .val false ((jL .own (jT (jC jI (j1 jI)))) []), .val false (jI 0), .emp, .emp, .emp, .emp, .emp] rfl rfl ?_)
  refine (s_for (c_iRng1 (c_eP (c_var (e := jI) rfl (c_nb (e := jI) (x := many) (c_i1 fun ks => ?_))))))
  refine (c_forL (e := jI) (s0 := ([], 0)) (fun s : (List (Int × Int)) × Int => [.val false ((jL .shr jI) loads), .val false (jI cranes), .val false (jI most), .val false (jI many), .val false ((jL .own (jT (jC jI (j1 jI)))) s.1), .val false (jI s.2), .emp, .emp, .emp, .emp, .emp]) (fun ⟨cuts, first⟩ => ?_) fun turn ⟨cuts, first⟩ nx_ bk_ NX hn hk => (c_tg [.val false ((jL .shr jI) loads), .val false (jI cranes), .val false (jI most), .val false (jI many), .val false ((jL .own (jT (jC jI (j1 jI)))) cuts), .val false (jI first), .val false (jI turn), .emp, .emp, .emp, .emp] rfl ?_))
  · refine (s_seq ?_)
    refine (s_frz (ρ2 := [.val false ((jL .shr jI) loads), .val false (jI cranes), .val false (jI most), .val false (jI many), .val false ((jL .shr (jT (jC jI (j1 jI)))) cuts), .val false (jI first), .emp, .emp, .emp, .emp, .emp]) (frzs_cons (ρ' := [.val false ((jL .shr jI) loads), .val false (jI cranes), .val false (jI most), .val false (jI many), .val false ((jL .shr (jT (jC jI (j1 jI)))) cuts), .val false (jI first), .emp, .emp, .emp, .emp, .emp]) (frz_at (e := (jL .own (jT (jC jI (j1 jI))))) rfl rfl) frzs_nil) ?_)
    refine (s_if (c_eB (c_tst (c_op2 (c_var (e := jI) rfl (c_var (e := (jL .shr jI)) rfl ?_))))))
    refine (c_pure (e := jB) (x := (decide (most ∈ loads))) (o_in (e' := jI) (e := jI) (f := .shr) (x := most) (xs := loads)) (c_dB (c_ite (fun _ => ?_) (fun _ => ?_))))
    · refine (s_ret (c_shr (c_eP (c_opN (c_cons (c_var (e := jI) rfl (c_cons ?_)))))))
      refine (c_var (e := (jL .shr (jT (jC jI (j1 jI))))) rfl (c_cons (c_opN (c_cons ?_))))
      refine (c_c (e := jS) (x := (Str.ofString "bay")) rfl (c_cons (c_met (c_var (e := (jL .shr jI)) rfl (c_isl (c_cons ?_))))))
      refine (c_var (e := jI) rfl (c_nil (c_mon (e := jI) o_index fun t2 => (c_nil ?_))))
      refine (c_pure (e := (jT (jC jS (j1 (jZ jI (jL .shr jI)))))) (x := ((Str.ofString "bay"), (Sum.inl t2))) rfl (c_nil ?_))
      exact (c_pure (e := (jT (jC jI (jC (jL .shr (jT (jC jI (j1 jI)))) (j1 (jT (jC jS (j1 (jZ jI (jL .shr jI)))))))))) (x := (most, cuts, ((Str.ofString "bay"), (Sum.inl t2)))) rfl (c_nb (e := (jT (jC jI (jC (jL .shr (jT (jC jI (j1 jI)))) (j1 (jT (jC jS (j1 (jZ jI (jL .shr jI)))))))))) (x := (most, cuts, ((Str.ofString "bay"), (Sum.inl t2)))) (c_shrK (e := (jT (jC jI (jC (jL .shr (jT (jC jI (j1 jI)))) (j1 (jT (jC jS (j1 (jZ jI (jL .shr jI)))))))))) (x := (most, cuts, ((Str.ofString "bay"), (Sum.inl t2)))) (r_rt (x := (most, cuts, ((Str.ofString "bay"), (Sum.inl t2)))) rfl))))
    · refine (s_nil (s_seq (s_set (c_eP (c_opN (c_cons (c_c (e := jI) (x := 0) rfl (c_nil ?_))))))))
      refine (c_pure (e := (jL .own jI)) (x := [0]) rfl (c_nb (e := (jL .own jI)) (x := [0]) (c_sto [.val false ((jL .shr jI) loads), .val false (jI cranes), .val false (jI most), .val false (jI many), .val false ((jL .shr (jT (jC jI (j1 jI)))) cuts), .val false (jI first), .emp, .emp, .val false ((jL .own jI) [0]), .emp, .emp] rfl rfl ?_)))
      refine (s_seq ?_)
      refine (s_wipe [.val false ((jL .shr jI) loads), .val false (jI cranes), .val false (jI most), .val false (jI many), .val false ((jL .shr (jT (jC jI (j1 jI)))) cuts), .val false (jI first), .emp, .emp, .val false ((jL .own jI) [0]), .emp, .emp] rfl rfl ?_)
      refine (s_for (c_iRng1 (c_eP (c_var (e := jI) rfl (c_nb (e := jI) (x := cranes) (c_i1 fun ks3 => ?_))))))
      refine (c_forL (e := jI) (s0 := [0]) (fun s : (List Int) => [.val false ((jL .shr jI) loads), .val false (jI cranes), .val false (jI most), .val false (jI many), .val false ((jL .shr (jT (jC jI (j1 jI)))) cuts), .val false (jI first), .emp, .emp, .val false ((jL .own jI) s), .emp, .emp]) (fun spots => ?_) fun turn2 spots nx_2 bk_2 NX hn hk => (c_tg [.val false ((jL .shr jI) loads), .val false (jI cranes), .val false (jI most), .val false (jI many), .val false ((jL .shr (jT (jC jI (j1 jI)))) cuts), .val false (jI first), .val false (jI turn2), .emp, .val false ((jL .own jI) spots), .emp, .emp] rfl ?_))
      · refine (s_frz (ρ2 := [.val false ((jL .shr jI) loads), .val false (jI cranes), .val false (jI most), .val false (jI many), .val false ((jL .shr (jT (jC jI (j1 jI)))) cuts), .val false (jI first), .emp, .emp, .val false ((jL .shr jI) spots), .emp, .emp]) (frzs_cons (ρ' := [.val false ((jL .shr jI) loads), .val false (jI cranes), .val false (jI most), .val false (jI many), .val false ((jL .shr (jT (jC jI (j1 jI)))) cuts), .val false (jI first), .emp, .emp, .val false ((jL .shr jI) spots), .emp, .emp]) (frz_at (e := (jL .own jI)) rfl rfl) frzs_nil) ?_)
        refine (s_ret (c_shr (c_eP (c_opN (c_cons (c_var (e := jI) rfl (c_cons ?_)))))))
        refine (c_var (e := (jL .shr (jT (jC jI (j1 jI))))) rfl (c_cons (c_opN (c_cons ?_))))
        refine (c_c (e := jS) (x := (Str.ofString "starts")) rfl (c_cons (c_var (e := (jL .shr jI)) rfl (c_nil ?_))))
        refine (c_pure (e := (jT (jC jS (j1 (jZ jI (jL .shr jI)))))) (x := ((Str.ofString "starts"), (Sum.inr spots))) rfl ?_)
        refine (c_nil ?_)
        exact (c_pure (e := (jT (jC jI (jC (jL .shr (jT (jC jI (j1 jI)))) (j1 (jT (jC jS (j1 (jZ jI (jL .shr jI)))))))))) (x := (most, cuts, ((Str.ofString "starts"), (Sum.inr spots)))) rfl (c_nb (e := (jT (jC jI (jC (jL .shr (jT (jC jI (j1 jI)))) (j1 (jT (jC jS (j1 (jZ jI (jL .shr jI)))))))))) (x := (most, cuts, ((Str.ofString "starts"), (Sum.inr spots)))) (c_shrK (e := (jT (jC jI (jC (jL .shr (jT (jC jI (j1 jI)))) (j1 (jT (jC jS (j1 (jZ jI (jL .shr jI)))))))))) (x := (most, cuts, ((Str.ofString "starts"), (Sum.inr spots)))) (r_rt (x := (most, cuts, ((Str.ofString "starts"), (Sum.inr spots)))) rfl))))
      · refine (s_wipA (s_seq (s_set (c_shr (c_eP (c_op2 (c_var (e := (jL .own jI)) rfl (c_var (e := jI) rfl ?_))))))))
        refine (c_mon (e := jI) (o_ix (f := .bor)) fun spot => (c_nb (e := jI) (x := spot) (c_shrK (e := jI) (x := spot) (c_sto [.val false ((jL .shr jI) loads), .val false (jI cranes), .val false (jI most), .val false (jI many), .val false ((jL .shr (jT (jC jI (j1 jI)))) cuts), .val false (jI first), .val false (jI turn2), .emp, .val false ((jL .own jI) spots), .val false (jI spot), .emp] rfl rfl ?_))))
        refine (s_expr (c_mut (c_chkO rfl (c_econs (c_eopN (c_econs (c_lc (c_iRng2 (c_eP ?_)))))))))
        refine (c_var (e := jI) rfl (c_nb (e := jI) (x := spot) (c_eP ?_)))
        refine (c_var (e := jI) rfl (c_nb (e := jI) (x := many) (c_i2 fun ks4 => (c_filtP (ey := jI) (fun p2 => [.val false ((jL .shr jI) loads), .val false (jI cranes), .val false (jI most), .val false (jI many), .val false ((jL .shr (jT (jC jI (j1 jI)))) cuts), .val false (jI first), .val false (jI turn2), .emp, .val false ((jL .own jI) spots), .val false (jI spot), .val false (jI p2)]) rfl (fun _ => rfl) (fun p2 => (rf_id ?_)) (fun p2 => (rf_id ?_)) (fun _ => rfl) fun t3 => ?_))))
        · refine (c_eB (c_tst (c_op2 (c_opN (c_cons (c_slice rfl (c_var (e := (jL .shr jI)) rfl (c_pIs ?_))))))))
          refine (c_var (e := jI) rfl (c_inI (c_pIs (c_op2 (c_var (e := jI) rfl (c_c (e := jI) (x := 1) rfl ?_))))))
          refine (c_pure (e := jI) (x := (p2 + 1)) rfl (c_inI ?_))
          refine (c_pure (e := (jL .own jI)) (x := (cut loads (some spot) (some (p2 + 1)))) o_slice (c_nil ?_))
          refine (c_pure (e := jI) (x := ((cut loads (some spot) (some (p2 + 1))).sum)) o_sum (c_var (e := jI) rfl ?_))
          exact (c_pure (e := jB) (x := (decide (((cut loads (some spot) (some (p2 + 1))).sum) ≥ most))) rfl (c_dB (rf_eq rfl)))
        · exact (c_eP (c_var (e := jI) rfl (c_nb (e := jI) (x := p2) (rf_eq rfl))))
        · refine (c_enil (c_mon (e := jI) o_min fun t4 => ?_))
          exact (c_enil (c_mutK (ed := (jL .own jI)) (er := fun _ => jU ()) (fun spots2 => [.val false ((jL .shr jI) loads), .val false (jI cranes), .val false (jI most), .val false (jI many), .val false ((jL .shr (jT (jC jI (j1 jI)))) cuts), .val false (jI first), .val false (jI turn2), .emp, .val false ((jL .own jI) spots2), .val false (jI spot), .emp]) rfl (o_app (e := jI) (x := t4)) (fun _ => rfl) fun spots2 => (c_wipN [.val false ((jL .shr jI) loads), .val false (jI cranes), .val false (jI most), .val false (jI many), .val false ((jL .shr (jT (jC jI (j1 jI)))) cuts), .val false (jI first), .emp, .emp, .val false ((jL .own jI) spots2), .emp, .emp] rfl rfl (hn spots2))))
  · refine (s_wipA (s_wipA (s_if (c_eB (c_tst (c_op2 (c_var (e := jI) rfl (c_var (e := jI) rfl ?_))))))))
    refine (c_pure (e := jB) (x := (decide (first < many))) rfl (c_dB (c_ite (fun _ => ?_) (fun _ => ?_))))
    · refine (s_seq (s_set (c_shr (c_eopN (c_econs (c_lc (c_iRng2 (c_eP ?_))))))))
      refine (c_var (e := jI) rfl (c_nb (e := jI) (x := first) (c_eP ?_)))
      refine (c_var (e := jI) rfl (c_nb (e := jI) (x := many) (c_i2 fun ks2 => (c_filtP (ey := jI) (fun p => [.val false ((jL .shr jI) loads), .val false (jI cranes), .val false (jI most), .val false (jI many), .val false ((jL .own (jT (jC jI (j1 jI)))) cuts), .val false (jI first), .val false (jI turn), .emp, .emp, .emp, .val false (jI p)]) rfl (fun _ => rfl) (fun p => (rf_id ?_)) (fun p => (rf_id ?_)) (fun _ => rfl) fun t => ?_))))
      · refine (c_eB (c_tst (c_op2 (c_opN (c_cons (c_slice rfl (c_var (e := (jL .shr jI)) rfl (c_pIs ?_))))))))
        refine (c_var (e := jI) rfl (c_inI (c_pIs (c_op2 (c_var (e := jI) rfl (c_c (e := jI) (x := 1) rfl ?_))))))
        refine (c_pure (e := jI) (x := (p + 1)) rfl (c_inI ?_))
        refine (c_pure (e := (jL .own jI)) (x := (cut loads (some first) (some (p + 1)))) o_slice (c_nil ?_))
        refine (c_pure (e := jI) (x := ((cut loads (some first) (some (p + 1))).sum)) o_sum (c_var (e := jI) rfl ?_))
        exact (c_pure (e := jB) (x := (decide (((cut loads (some first) (some (p + 1))).sum) ≤ most))) rfl (c_dB (rf_eq rfl)))
      · exact (c_eP (c_var (e := jI) rfl (c_nb (e := jI) (x := p) (rf_eq rfl))))
      · refine (c_enil ?_)
        refine (c_mon (e := jI) o_max fun last => (c_shrK (e := jI) (x := last) (c_sto [.val false ((jL .shr jI) loads), .val false (jI cranes), .val false (jI most), .val false (jI many), .val false ((jL .own (jT (jC jI (j1 jI)))) cuts), .val false (jI first), .val false (jI turn), .val false (jI last), .emp, .emp, .emp] rfl rfl ?_)))
        refine (s_seq (s_expr (c_mut (c_chkO rfl (c_econs (c_eP (c_opN (c_cons (c_var (e := jI) rfl (c_cons ?_))))))))))
        refine (c_var (e := jI) rfl (c_nil ?_))
        refine (c_pure (e := (jT (jC jI (j1 jI)))) (x := (first, last)) rfl (c_nb (e := (jT (jC jI (j1 jI)))) (x := (first, last)) ?_))
        refine (c_enil (c_mutK (ed := (jL .own (jT (jC jI (j1 jI))))) (er := fun _ => jU ()) (fun cuts2 => [.val false ((jL .shr jI) loads), .val false (jI cranes), .val false (jI most), .val false (jI many), .val false ((jL .own (jT (jC jI (j1 jI)))) cuts2), .val false (jI first), .val false (jI turn), .val false (jI last), .emp, .emp, .emp]) rfl (o_app (e := (jT (jC jI (j1 jI)))) (x := (first, last))) (fun _ => rfl) fun cuts2 => ?_))
        refine (s_set (c_shr (c_eP (c_op2 (c_var (e := jI) rfl (c_c (e := jI) (x := 1) rfl ?_))))))
        exact (c_pure (e := jI) (x := (last + 1)) rfl (c_nb (e := jI) (x := (last + 1)) (c_shrK (e := jI) (x := (last + 1)) (c_stoL (e := jI) (t := (last + 1)) (fun first2 => [.val false ((jL .shr jI) loads), .val false (jI cranes), .val false (jI most), .val false (jI many), .val false ((jL .own (jT (jC jI (j1 jI)))) cuts2), .val false (jI first2), .val false (jI turn), .val false (jI last), .emp, .emp, .emp]) rfl (fun _ => rfl) fun first2 => (c_wipN [.val false ((jL .shr jI) loads), .val false (jI cranes), .val false (jI most), .val false (jI many), .val false ((jL .own (jT (jC jI (j1 jI)))) cuts2), .val false (jI first2), .val false (jI turn), .emp, .emp, .emp, .emp] rfl rfl (c_wipN [.val false ((jL .shr jI) loads), .val false (jI cranes), .val false (jI most), .val false (jI many), .val false ((jL .own (jT (jC jI (j1 jI)))) cuts2), .val false (jI first2), .emp, .emp, .emp, .emp, .emp] rfl rfl (hn (cuts2, first2))))))))
    · exact (s_nil (c_wipN [.val false ((jL .shr jI) loads), .val false (jI cranes), .val false (jI most), .val false (jI many), .val false ((jL .own (jT (jC jI (j1 jI)))) cuts), .val false (jI first), .val false (jI turn), .emp, .emp, .emp, .emp] rfl rfl (c_wipN [.val false ((jL .shr jI) loads), .val false (jI cranes), .val false (jI most), .val false (jI many), .val false ((jL .own (jT (jC jI (j1 jI)))) cuts), .val false (jI first), .emp, .emp, .emp, .emp, .emp] rfl rfl (hn (cuts, first)))))

def m__law_loads (pool : (Int × Int × Int)) : R ((List Int) × (Int × Int × Int)) :=
  (m__law_draw pool 8).bind fun (t, pool2) =>
  (R.ok (1 + t)).bind fun many =>
  (m__law_chance pool2 1 8).bind fun (t2, pool3) =>
  J (fun (pool4, many2) =>
  (m__law_draw pool4 4).bind fun (style, pool5) =>
  (m__law_draw pool5 100).bind fun (first, pool6) =>
  (rngR many2).bind fun ks =>
  forC (fun (at_ : Int) (s : (Int × Int × Int) × (List Int)) (nx_ : ((Int × Int × Int) × (List Int)) → R ((List Int) × (Int × Int × Int))) (bk_ : ((Int × Int × Int) × (List Int)) → R ((List Int) × (Int × Int × Int))) =>
  match s with | (pool7, loads) => (if (decide (style = 0)) = true then ((m__law_draw pool7 100).bind fun (t3, pool8) =>
  (appR loads t3).bind fun loads2 =>
  nx_ (pool8, loads2))
  else (if (decide (style = 1)) = true then ((m__law_draw pool7 5).bind fun (t4, pool9) =>
  (appR loads t4).bind fun loads3 =>
  nx_ (pool9, loads3))
  else (if (decide (style = 2)) = true then ((m__law_pick pool7 [first, first, first, 0, 99]).bind fun (t5, pool10) =>
  (appR loads t5).bind fun loads4 =>
  nx_ (pool10, loads4))
  else ((m__law_draw pool7 20).bind fun (t6, pool11) =>
  (appR loads (imax2 0 (t6 - 10))).bind fun loads5 =>
  nx_ (pool11, loads5))))))
  (fun (pool7, loads) =>
  .ok (loads, pool7)) ks (pool6, [])) fun j =>
  if t2 = true then ((m__law_draw pool3 4).bind fun (t7, pool12) =>
  (R.ok (9 + t7)).bind fun many3 =>
  j (pool12, many3))
  else (j (pool3, many))
theorem c__law_loads (pool : (Int × Int × Int)) : Rf (G__law_loads [(jR .own (jC jI (jC jI (j1 jI)))) pool]) (fun z => ((jL .own jI) z.1, [(jR .own (jC jI (jC jI (j1 jI)))) z.2])) (m__law_loads pool) := by
  refine d_body [.val true ((jR .own (jC jI (jC jI (j1 jI)))) pool), .emp, .emp, .emp, .emp, .emp] rfl rfl (s_seq (s_set ?_))
  refine (c_shr (c_eop2 (c_eP (c_c (e := jI) (x := 1) rfl (c_nb (e := jI) (x := 1) (c_ecallm (c_chk rfl (c_econs ?_))))))))
  refine (c_eP (c_c (e := jI) (x := 8) rfl (c_nb (e := jI) (x := 8) (c_enil ?_))))
  refine (c_callM (ds := [jI 8]) (ρ := [.val true ((jR .own (jC jI (jC jI (j1 jI)))) pool), .emp, .emp, .emp, .emp, .emp]) (e := jI) (em := (jR .own (jC jI (jC jI (j1 jI))))) (fun pool2 => [.val true ((jR .own (jC jI (jC jI (j1 jI)))) pool2), .emp, .emp, .emp, .emp, .emp]) (c__law_draw pool 8) rfl rfl (tg_cons tg_nil) (fun _ => rfl) fun t pool2 => ?_)
  refine (c_pure (e := jI) (x := (1 + t)) rfl (c_shrK (e := jI) (x := (1 + t)) (c_stoL (e := jI) (t := (1 + t)) (fun many => [.val true ((jR .own (jC jI (jC jI (j1 jI)))) pool2), .val false (jI many), .emp, .emp, .emp, .emp]) rfl (fun _ => rfl) fun many => ?_)))
  refine (s_seq (s_if (c_etst (c_ecallm (c_chk rfl (c_econs (c_eP ?_)))))))
  refine (c_c (e := jI) (x := 1) rfl (c_nb (e := jI) (x := 1) (c_econs (c_eP ?_))))
  refine (c_c (e := jI) (x := 8) rfl (c_nb (e := jI) (x := 8) (c_enil ?_)))
  refine (c_callM (ds := [jI 1, jI 8]) (ρ := [.val true ((jR .own (jC jI (jC jI (j1 jI)))) pool2), .val false (jI many), .emp, .emp, .emp, .emp]) (e := jB) (em := (jR .own (jC jI (jC jI (j1 jI))))) (fun pool3 => [.val true ((jR .own (jC jI (jC jI (j1 jI)))) pool3), .val false (jI many), .emp, .emp, .emp, .emp]) (c__law_chance pool2 1 8) rfl rfl (tg_cons (tg_cons tg_nil)) (fun _ => rfl) fun t2 pool3 => (c_dB (s_join (F := (fun s : (Int × Int × Int) × Int => [.val true ((jR .own (jC jI (jC jI (j1 jI)))) s.1), .val false (jI s.2), .emp, .emp, .emp, .emp])) (fun ⟨pool4, many2⟩ => ?_) fun j hj => (c_ite (fun _ => ?_) (fun _ => ?_)))))
  · refine (s_seq (s_set (c_shr (c_ecallm (c_chk rfl (c_econs (c_eP ?_)))))))
    refine (c_c (e := jI) (x := 4) rfl (c_nb (e := jI) (x := 4) (c_enil ?_)))
    refine (c_callM (ds := [jI 4]) (ρ := [.val true ((jR .own (jC jI (jC jI (j1 jI)))) pool4), .val false (jI many2), .emp, .emp, .emp, .emp]) (e := jI) (em := (jR .own (jC jI (jC jI (j1 jI))))) (fun pool5 => [.val true ((jR .own (jC jI (jC jI (j1 jI)))) pool5), .val false (jI many2), .emp, .emp, .emp, .emp]) (c__law_draw pool4 4) rfl rfl (tg_cons tg_nil) (fun _ => rfl) fun style pool5 => (c_shrK (e := jI) (x := style) (c_sto [.val true ((jR .own (jC jI (jC jI (j1 jI)))) pool5), .val false (jI many2), .val false (jI style), .emp, .emp, .emp] rfl rfl ?_)))
    refine (s_seq (s_set (c_shr (c_ecallm (c_chk rfl (c_econs (c_eP ?_)))))))
    refine (c_c (e := jI) (x := 100) rfl (c_nb (e := jI) (x := 100) (c_enil ?_)))
    refine (c_callM (ds := [jI 100]) (ρ := [.val true ((jR .own (jC jI (jC jI (j1 jI)))) pool5), .val false (jI many2), .val false (jI style), .emp, .emp, .emp]) (e := jI) (em := (jR .own (jC jI (jC jI (j1 jI))))) (fun pool6 => [.val true ((jR .own (jC jI (jC jI (j1 jI)))) pool6), .val false (jI many2), .val false (jI style), .emp, .emp, .emp]) (c__law_draw pool5 100) rfl rfl (tg_cons tg_nil) (fun _ => rfl) fun first pool6 => (c_shrK (e := jI) (x := first) (c_sto [.val true ((jR .own (jC jI (jC jI (j1 jI)))) pool6), .val false (jI many2), .val false (jI style), .val false (jI first), .emp, .emp] rfl rfl ?_)))
    refine (s_seq (s_set (c_eP (c_opN (c_nil ?_)))))
    refine (c_pure (e := (jL .own jI)) (x := []) rfl (c_nb (e := (jL .own jI)) (x := []) (c_sto [.val true ((jR .own (jC jI (jC jI (j1 jI)))) pool6), .val false (jI many2), .val false (jI style), .val false (jI first), .val false ((jL .own jI) []), .emp] rfl rfl ?_)))
    refine (s_seq ?_)
    refine (s_wipe [.val true ((jR .own (jC jI (jC jI (j1 jI)))) pool6), .val false (jI many2), .val false (jI style), .val false (jI first), .val false ((jL .own jI) []), .emp] rfl rfl ?_)
    refine (s_for (c_iRng1 (c_eP (c_var (e := jI) rfl (c_nb (e := jI) (x := many2) (c_i1 fun ks => ?_))))))
    refine (c_forL (e := jI) (s0 := (pool6, [])) (fun s : (Int × Int × Int) × (List Int) => [.val true ((jR .own (jC jI (jC jI (j1 jI)))) s.1), .val false (jI many2), .val false (jI style), .val false (jI first), .val false ((jL .own jI) s.2), .emp]) (fun ⟨pool7, loads⟩ => ?_) fun at_ ⟨pool7, loads⟩ nx_ bk_ NX hn hk => (c_tg [.val true ((jR .own (jC jI (jC jI (j1 jI)))) pool7), .val false (jI many2), .val false (jI style), .val false (jI first), .val false ((jL .own jI) loads), .val false (jI at_)] rfl ?_))
    · refine (s_ret ?_)
      exact (c_move (e := (jL .own jI)) (x := loads) (ρ2 := [.val true ((jR .own (jC jI (jC jI (j1 jI)))) pool7), .val false (jI many2), .val false (jI style), .val false (jI first), .emp, .emp]) rfl rfl (r_rt (x := (loads, pool7)) rfl))
    · refine (s_wipA (s_if (c_eB (c_tst (c_op2 (c_var (e := jI) rfl (c_c (e := jI) (x := 0) rfl ?_)))))))
      refine (c_pure (e := jB) (x := (decide (style = 0))) (o_eq (e := jI) (e' := jI) (x := style) (y := 0)) (c_dB (c_ite (fun _ => ?_) (fun _ => ?_))))
      · refine (s_expr (c_mut (c_chkO rfl (c_econs (c_ecallm (c_chk rfl (c_econs (c_eP ?_))))))))
        refine (c_c (e := jI) (x := 100) rfl (c_nb (e := jI) (x := 100) (c_enil ?_)))
        refine (c_callM (ds := [jI 100]) (ρ := [.val true ((jR .own (jC jI (jC jI (j1 jI)))) pool7), .val false (jI many2), .val false (jI style), .val false (jI first), .val false ((jL .own jI) loads), .val false (jI at_)]) (e := jI) (em := (jR .own (jC jI (jC jI (j1 jI))))) (fun pool8 => [.val true ((jR .own (jC jI (jC jI (j1 jI)))) pool8), .val false (jI many2), .val false (jI style), .val false (jI first), .val false ((jL .own jI) loads), .val false (jI at_)]) (c__law_draw pool7 100) rfl rfl (tg_cons tg_nil) (fun _ => rfl) fun t3 pool8 => ?_)
        exact (c_enil (c_mutK (ed := (jL .own jI)) (er := fun _ => jU ()) (fun loads2 => [.val true ((jR .own (jC jI (jC jI (j1 jI)))) pool8), .val false (jI many2), .val false (jI style), .val false (jI first), .val false ((jL .own jI) loads2), .val false (jI at_)]) rfl (o_app (e := jI) (x := t3)) (fun _ => rfl) fun loads2 => (c_wipN [.val true ((jR .own (jC jI (jC jI (j1 jI)))) pool8), .val false (jI many2), .val false (jI style), .val false (jI first), .val false ((jL .own jI) loads2), .emp] rfl rfl (hn (pool8, loads2)))))
      · refine (s_if (c_eB (c_tst (c_op2 (c_var (e := jI) rfl (c_c (e := jI) (x := 1) rfl ?_))))))
        refine (c_pure (e := jB) (x := (decide (style = 1))) (o_eq (e := jI) (e' := jI) (x := style) (y := 1)) (c_dB (c_ite (fun _ => ?_) (fun _ => ?_))))
        · refine (s_expr (c_mut (c_chkO rfl (c_econs (c_ecallm (c_chk rfl (c_econs (c_eP ?_))))))))
          refine (c_c (e := jI) (x := 5) rfl (c_nb (e := jI) (x := 5) (c_enil ?_)))
          refine (c_callM (ds := [jI 5]) (ρ := [.val true ((jR .own (jC jI (jC jI (j1 jI)))) pool7), .val false (jI many2), .val false (jI style), .val false (jI first), .val false ((jL .own jI) loads), .val false (jI at_)]) (e := jI) (em := (jR .own (jC jI (jC jI (j1 jI))))) (fun pool9 => [.val true ((jR .own (jC jI (jC jI (j1 jI)))) pool9), .val false (jI many2), .val false (jI style), .val false (jI first), .val false ((jL .own jI) loads), .val false (jI at_)]) (c__law_draw pool7 5) rfl rfl (tg_cons tg_nil) (fun _ => rfl) fun t4 pool9 => ?_)
          exact (c_enil (c_mutK (ed := (jL .own jI)) (er := fun _ => jU ()) (fun loads3 => [.val true ((jR .own (jC jI (jC jI (j1 jI)))) pool9), .val false (jI many2), .val false (jI style), .val false (jI first), .val false ((jL .own jI) loads3), .val false (jI at_)]) rfl (o_app (e := jI) (x := t4)) (fun _ => rfl) fun loads3 => (c_wipN [.val true ((jR .own (jC jI (jC jI (j1 jI)))) pool9), .val false (jI many2), .val false (jI style), .val false (jI first), .val false ((jL .own jI) loads3), .emp] rfl rfl (hn (pool9, loads3)))))
        · refine (s_if (c_eB (c_tst (c_op2 (c_var (e := jI) rfl (c_c (e := jI) (x := 2) rfl ?_))))))
          refine (c_pure (e := jB) (x := (decide (style = 2))) (o_eq (e := jI) (e' := jI) (x := style) (y := 2)) (c_dB (c_ite (fun _ => ?_) (fun _ => ?_))))
          · refine (s_expr (c_mut (c_chkO rfl (c_econs (c_ecallm (c_chk rfl (c_econs (c_eP (c_opN (c_cons ?_))))))))))
            refine (c_var (e := jI) rfl (c_cons (c_var (e := jI) rfl (c_cons (c_var (e := jI) rfl (c_cons ?_))))))
            refine (c_c (e := jI) (x := 0) rfl (c_cons (c_c (e := jI) (x := 99) rfl (c_nil ?_))))
            refine (c_pure (e := (jL .own jI)) (x := [first, first, first, 0, 99]) rfl (c_nb (e := (jL .own jI)) (x := [first, first, first, 0, 99]) ?_))
            refine (c_enil ?_)
            refine (c_callM (ds := [(jL .own jI) [first, first, first, 0, 99]]) (ρ := [.val true ((jR .own (jC jI (jC jI (j1 jI)))) pool7), .val false (jI many2), .val false (jI style), .val false (jI first), .val false ((jL .own jI) loads), .val false (jI at_)]) (e := jI) (em := (jR .own (jC jI (jC jI (j1 jI))))) (fun pool10 => [.val true ((jR .own (jC jI (jC jI (j1 jI)))) pool10), .val false (jI many2), .val false (jI style), .val false (jI first), .val false ((jL .own jI) loads), .val false (jI at_)]) (c__law_pick pool7 [first, first, first, 0, 99]) rfl rfl (tg_cons tg_nil) (fun _ => rfl) fun t5 pool10 => ?_)
            exact (c_enil (c_mutK (ed := (jL .own jI)) (er := fun _ => jU ()) (fun loads4 => [.val true ((jR .own (jC jI (jC jI (j1 jI)))) pool10), .val false (jI many2), .val false (jI style), .val false (jI first), .val false ((jL .own jI) loads4), .val false (jI at_)]) rfl (o_app (e := jI) (x := t5)) (fun _ => rfl) fun loads4 => (c_wipN [.val true ((jR .own (jC jI (jC jI (j1 jI)))) pool10), .val false (jI many2), .val false (jI style), .val false (jI first), .val false ((jL .own jI) loads4), .emp] rfl rfl (hn (pool10, loads4)))))
          · refine (s_expr (c_mut (c_chkO rfl (c_econs (c_eopN (c_econs (c_eP ?_)))))))
            refine (c_c (e := jI) (x := 0) rfl (c_nb (e := jI) (x := 0) (c_econs (c_eop2 (c_ecallm (c_chk rfl (c_econs (c_eP ?_))))))))
            refine (c_c (e := jI) (x := 20) rfl (c_nb (e := jI) (x := 20) (c_enil ?_)))
            refine (c_callM (ds := [jI 20]) (ρ := [.val true ((jR .own (jC jI (jC jI (j1 jI)))) pool7), .val false (jI many2), .val false (jI style), .val false (jI first), .val false ((jL .own jI) loads), .val false (jI at_)]) (e := jI) (em := (jR .own (jC jI (jC jI (j1 jI))))) (fun pool11 => [.val true ((jR .own (jC jI (jC jI (j1 jI)))) pool11), .val false (jI many2), .val false (jI style), .val false (jI first), .val false ((jL .own jI) loads), .val false (jI at_)]) (c__law_draw pool7 20) rfl rfl (tg_cons tg_nil) (fun _ => rfl) fun t6 pool11 => ?_)
            refine (c_eP (c_c (e := jI) (x := 10) rfl (c_nb (e := jI) (x := 10) (c_pure (e := jI) (x := (t6 - 10)) rfl (c_enil ?_)))))
            refine (c_pure (e := jI) (x := (imax2 0 (t6 - 10))) o_max2 ?_)
            exact (c_enil (c_mutK (ed := (jL .own jI)) (er := fun _ => jU ()) (fun loads5 => [.val true ((jR .own (jC jI (jC jI (j1 jI)))) pool11), .val false (jI many2), .val false (jI style), .val false (jI first), .val false ((jL .own jI) loads5), .val false (jI at_)]) rfl (o_app (e := jI) (x := (imax2 0 (t6 - 10)))) (fun _ => rfl) fun loads5 => (c_wipN [.val true ((jR .own (jC jI (jC jI (j1 jI)))) pool11), .val false (jI many2), .val false (jI style), .val false (jI first), .val false ((jL .own jI) loads5), .emp] rfl rfl (hn (pool11, loads5)))))
  · refine (s_set (c_shr (c_eop2 (c_eP (c_c (e := jI) (x := 9) rfl (c_nb (e := jI) (x := 9) (c_ecallm (c_chk rfl ?_))))))))
    refine (c_econs (c_eP (c_c (e := jI) (x := 4) rfl (c_nb (e := jI) (x := 4) (c_enil ?_)))))
    refine (c_callM (ds := [jI 4]) (ρ := [.val true ((jR .own (jC jI (jC jI (j1 jI)))) pool3), .val false (jI many), .emp, .emp, .emp, .emp]) (e := jI) (em := (jR .own (jC jI (jC jI (j1 jI))))) (fun pool12 => [.val true ((jR .own (jC jI (jC jI (j1 jI)))) pool12), .val false (jI many), .emp, .emp, .emp, .emp]) (c__law_draw pool3 4) rfl rfl (tg_cons tg_nil) (fun _ => rfl) fun t7 pool12 => ?_)
    exact (c_pure (e := jI) (x := (9 + t7)) rfl (c_shrK (e := jI) (x := (9 + t7)) (c_stoL (e := jI) (t := (9 + t7)) (fun many3 => [.val true ((jR .own (jC jI (jC jI (j1 jI)))) pool12), .val false (jI many3), .emp, .emp, .emp, .emp]) rfl (fun _ => rfl) fun many3 => (hj (pool12, many3)))))
  · exact (s_nil (hj (pool3, many)))

def m__law_parted (loads : (List Int)) (cranes : Int) : R Bool :=
  (m__law_due loads cranes).bind fun due =>
  (rngR 2).bind fun ks =>
  forC (fun (turn : Int) (s : Unit) (nx_ : (Unit) → R Bool) (bk_ : (Unit) → R Bool) =>
  (m_zones loads cranes).bind fun got =>
  (m__law_same ((jT (jC jI (jC (jL .shr (jT (jC jI (j1 jI)))) (j1 (jT (jC jS (j1 (jZ jI (jL .shr jI))))))))) got) ((jT (jC jI (jC (jL .shr (jT (jC jI (j1 jI)))) (j1 (jT (jC jS (j1 (jZ jI (jL .shr jI))))))))) due)).bind fun t =>
  (if (!t) = true then .ok true else ((m__law_same ((jL .shr jI) loads) ((jL .shr jI) loads)).bind fun t2 =>
  .ok (!t2)) : R Bool).bind fun t3 =>
  if t3 = true then (.ok false)
  else ((R.ok (got.2.1.reverse)).bind fun cuts =>
  (appR cuts (0, turn)).bind fun cuts2 =>
  if (decide (due.2.2.1 = (Str.ofString "starts"))) = true then ((R.of ((fun p : (Int × Unit × (PySem.Str × (Int ⊕ (List Int)))) => ((fun p : (PySem.Str × (Int ⊕ (List Int))) => (Sum.getRight? p.2).map fun z => (p.1, z)) p.2.2).map fun z => (p.1, p.2.1, z)) (got.1, (), got.2.2))).bind fun got2 =>
  (appR got2.2.2.2 turn).bind fun spots =>
  (R.ok (spots.reverse)).bind fun spots2 =>
  nx_ ())
  else (nx_ ())))
  (fun _ =>
  (cpR (jT (jC jS (j1 (jZ jI (jL .shr jI))))) due.2.2).bind fun t4 =>
  (m_zones_ok loads cranes due.1 t4).bind fun t5 =>
  (m__law_same (jB t5) (jB true)).bind fun t6 =>
  if (!t6) = true then (.ok false)
  else ((R.ok (loads.reverse)).bind fun mine =>
  (m__law_due mine cranes).bind fun due2 =>
  (m_zones mine cranes).bind fun t7 =>
  (m__law_same ((jT (jC jI (jC (jL .shr (jT (jC jI (j1 jI)))) (j1 (jT (jC jS (j1 (jZ jI (jL .shr jI))))))))) t7) ((jT (jC jI (jC (jL .shr (jT (jC jI (j1 jI)))) (j1 (jT (jC jS (j1 (jZ jI (jL .shr jI))))))))) due2)).bind fun t8 =>
  .ok t8)) ks ()
theorem c__law_parted (loads : (List Int)) (cranes : Int) : Rf (G__law_parted [(jL .shr jI) loads, jI cranes]) (fun z => (jB z, [])) (m__law_parted loads cranes) := by
  refine d_body [.val false ((jL .shr jI) loads), .val false (jI cranes), .emp, .emp, .emp, .emp, .emp, .emp] rfl rfl ?_
  refine (s_seq (s_set (c_shr (c_eP (c_call (c_cons (c_var (e := (jL .shr jI)) rfl (c_cons (c_var (e := jI) rfl ?_)))))))))
  refine (c_nil ?_)
  refine (c_callN (ds := [(jL .shr jI) loads, jI cranes]) (e := (jT (jC jI (jC (jL .shr (jT (jC jI (j1 jI)))) (j1 (jT (jC jS (j1 (jZ jI (jL .shr jI)))))))))) (c__law_due loads cranes) rfl (tg_cons (tg_cons tg_nil)) (by simp [jL, jR, jT, jC, j1, jI, jB, jS]) fun due => (c_nb (e := (jT (jC jI (jC (jL .shr (jT (jC jI (j1 jI)))) (j1 (jT (jC jS (j1 (jZ jI (jL .shr jI)))))))))) (x := due) (c_shrK (e := (jT (jC jI (jC (jL .shr (jT (jC jI (j1 jI)))) (j1 (jT (jC jS (j1 (jZ jI (jL .shr jI)))))))))) (x := due) (c_sto [.val false ((jL .shr jI) loads), .val false (jI cranes), .val false ((jT (jC jI (jC (jL .shr (jT (jC jI (j1 jI)))) (j1 (jT (jC jS (j1 (jZ jI (jL .shr jI))))))))) due), .emp, .emp, .emp, .emp, .emp] rfl rfl ?_))))
  refine (s_seq (s_set (c_eP (c_opN (c_cons (c_var (e := (jL .shr jI)) rfl (c_nil ?_)))))))
  refine (c_pure (e := (jL .own jI)) (x := loads) o_list (c_nb (e := (jL .own jI)) (x := loads) (c_sto [.val false ((jL .shr jI) loads), .val false (jI cranes), .val false ((jT (jC jI (jC (jL .shr (jT (jC jI (j1 jI)))) (j1 (jT (jC jS (j1 (jZ jI (jL .shr jI))))))))) due), .val false ((jL .own jI) loads), .emp, .emp, .emp, .emp] rfl rfl ?_)))
  refine (s_seq ?_)
  refine (s_wipe [.val false ((jL .shr jI) loads), .val false (jI cranes), .val false ((jT (jC jI (jC (jL .shr (jT (jC jI (j1 jI)))) (j1 (jT (jC jS (j1 (jZ jI (jL .shr jI))))))))) due), .val false ((jL .own jI) loads), .emp, .emp, .emp, .emp] rfl rfl ?_)
  refine (s_for (c_iRng1 (c_eP (c_c (e := jI) (x := 2) rfl (c_nb (e := jI) (x := 2) (c_i1 fun ks => ?_))))))
  refine (c_forL (e := jI) (s0 := ()) (fun s : Unit => [.val false ((jL .shr jI) loads), .val false (jI cranes), .val false ((jT (jC jI (jC (jL .shr (jT (jC jI (j1 jI)))) (j1 (jT (jC jS (j1 (jZ jI (jL .shr jI))))))))) due), .val false ((jL .own jI) loads), .emp, .emp, .emp, .emp]) (fun _ => ?_) fun turn _ nx_ bk_ NX hn hk => (c_tg [.val false ((jL .shr jI) loads), .val false (jI cranes), .val false ((jT (jC jI (jC (jL .shr (jT (jC jI (j1 jI)))) (j1 (jT (jC jS (j1 (jZ jI (jL .shr jI))))))))) due), .val false ((jL .own jI) loads), .val false (jI turn), .emp, .emp, .emp] rfl ?_))
  · refine (s_seq (s_if (c_eB (c_not (c_tst (c_call (c_cons (c_call (c_cons (c_var (e := (jL .own jI)) rfl (c_cons ?_)))))))))))
    refine (c_var (e := jI) rfl (c_cons (c_op2 ?_)))
    refine (c_var (e := (jT (jC jI (jC (jL .shr (jT (jC jI (j1 jI)))) (j1 (jT (jC jS (j1 (jZ jI (jL .shr jI)))))))))) rfl ?_)
    refine (c_c (e := jI) (x := 0) rfl (c_pure (e := jI) (x := due.1) rfl (c_cons (c_call (c_cons (c_op2 ?_))))))
    refine (c_var (e := (jT (jC jI (jC (jL .shr (jT (jC jI (j1 jI)))) (j1 (jT (jC jS (j1 (jZ jI (jL .shr jI)))))))))) rfl ?_)
    refine (c_c (e := jI) (x := 2) rfl (c_pure (e := (jT (jC jS (j1 (jZ jI (jL .shr jI)))))) (x := due.2.2) rfl (c_nil ?_)))
    refine (c_callS (ds := [(jT (jC jS (j1 (jZ jI (jL .shr jI))))) due.2.2]) (c_cp (e := (jT (jC jS (j1 (jZ jI (jL .shr jI)))))) due.2.2) rfl (tg_cons tg_nil) fun t4 => ?_)
    refine (c_nil ?_)
    refine (c_callS (ds := [(jL .bor jI) loads, jI cranes, jI due.1, (jT (jC jS (j1 (jZ jI (jL .own jI))))) t4]) (e := jB) (c_zones_ok loads cranes due.1 t4) rfl (tg_cons (tg_cons (tg_cons (tg_cons tg_nil)))) fun t5 => ?_)
    refine (c_cons (c_c (e := jB) (x := true) rfl (c_nil ?_)))
    refine (c_callS (ds := [jB t5, jB true]) (c__law_same (jB t5) (jB true)) rfl (tg_cons (tg_cons tg_nil)) fun t6 => (c_dB (c_ite (fun _ => ?_) (fun _ => ?_))))
    · exact (s_ret (c_eP (c_c (e := jB) (x := false) rfl (c_nb (e := jB) (x := false) (r_rt (x := false) rfl)))))
    · refine (s_nil (s_seq (s_expr (c_mut (c_chkO rfl ?_)))))
      refine (c_enil (c_mutK (ed := (jL .own jI)) (er := fun _ => jU ()) (r := R.ok (loads.reverse)) (fun mine => [.val false ((jL .shr jI) loads), .val false (jI cranes), .val false ((jT (jC jI (jC (jL .shr (jT (jC jI (j1 jI)))) (j1 (jT (jC jS (j1 (jZ jI (jL .shr jI))))))))) due), .val false ((jL .own jI) mine), .emp, .emp, .emp, .emp]) rfl o_rev (fun _ => rfl) fun mine => ?_))
      refine (s_seq ?_)
      refine (s_frz (ρ2 := [.val false ((jL .shr jI) loads), .val false (jI cranes), .val false ((jT (jC jI (jC (jL .shr (jT (jC jI (j1 jI)))) (j1 (jT (jC jS (j1 (jZ jI (jL .shr jI))))))))) due), .val false ((jL .shr jI) mine), .emp, .emp, .emp, .emp]) (frzs_cons (ρ' := [.val false ((jL .shr jI) loads), .val false (jI cranes), .val false ((jT (jC jI (jC (jL .shr (jT (jC jI (j1 jI)))) (j1 (jT (jC jS (j1 (jZ jI (jL .shr jI))))))))) due), .val false ((jL .shr jI) mine), .emp, .emp, .emp, .emp]) (frz_at (e := (jL .own jI)) rfl rfl) frzs_nil) ?_)
      refine (s_set (c_shr (c_eP (c_call (c_cons (c_opN (c_cons (c_var (e := (jL .shr jI)) rfl (c_nil ?_)))))))))
      refine (c_pure (e := (jL .own jI)) (x := mine) o_list (c_cons (c_var (e := jI) rfl (c_nil ?_))))
      refine (c_callN (ds := [(jL .own jI) mine, jI cranes]) (e := (jT (jC jI (jC (jL .shr (jT (jC jI (j1 jI)))) (j1 (jT (jC jS (j1 (jZ jI (jL .shr jI)))))))))) (c__law_due mine cranes) rfl (tg_cons (tg_cons tg_nil)) (by simp [jL, jR, jT, jC, j1, jI, jB, jS]) fun due2 => (c_nb (e := (jT (jC jI (jC (jL .shr (jT (jC jI (j1 jI)))) (j1 (jT (jC jS (j1 (jZ jI (jL .shr jI)))))))))) (x := due2) (c_shrK (e := (jT (jC jI (jC (jL .shr (jT (jC jI (j1 jI)))) (j1 (jT (jC jS (j1 (jZ jI (jL .shr jI)))))))))) (x := due2) (c_sto [.val false ((jL .shr jI) loads), .val false (jI cranes), .val false ((jT (jC jI (jC (jL .shr (jT (jC jI (j1 jI)))) (j1 (jT (jC jS (j1 (jZ jI (jL .shr jI))))))))) due2), .val false ((jL .shr jI) mine), .emp, .emp, .emp, .emp] rfl rfl ?_))))
      refine (s_ret (c_eP (c_call (c_cons (c_call (c_cons (c_var (e := (jL .shr jI)) rfl (c_cons (c_var (e := jI) rfl ?_)))))))))
      refine (c_nil ?_)
      refine (c_callS (ds := [(jL .shr jI) mine, jI cranes]) (e := (jT (jC jI (jC (jL .own (jT (jC jI (j1 jI)))) (j1 (jT (jC jS (j1 (jZ jI (jL .own jI)))))))))) (c_zones mine cranes) rfl (tg_cons (tg_cons tg_nil)) fun t7 => ?_)
      refine (c_cons ?_)
      refine (c_var (e := (jT (jC jI (jC (jL .shr (jT (jC jI (j1 jI)))) (j1 (jT (jC jS (j1 (jZ jI (jL .shr jI)))))))))) rfl ?_)
      refine (c_nil ?_)
      exact (c_callS (ds := [(jT (jC jI (jC (jL .own (jT (jC jI (j1 jI)))) (j1 (jT (jC jS (j1 (jZ jI (jL .own jI))))))))) t7, (jT (jC jI (jC (jL .shr (jT (jC jI (j1 jI)))) (j1 (jT (jC jS (j1 (jZ jI (jL .shr jI))))))))) due2]) (c__law_same ((jT (jC jI (jC (jL .shr (jT (jC jI (j1 jI)))) (j1 (jT (jC jS (j1 (jZ jI (jL .shr jI))))))))) t7) ((jT (jC jI (jC (jL .shr (jT (jC jI (j1 jI)))) (j1 (jT (jC jS (j1 (jZ jI (jL .shr jI))))))))) due2)) rfl (tg_cons (tg_cons tg_nil)) fun t8 => (c_nb (e := jB) (x := t8) (r_rt (x := t8) rfl)))
  · refine (s_wipA (s_seq (s_set (c_eP (c_call (c_cons (c_var (e := (jL .own jI)) rfl (c_cons (c_var (e := jI) rfl ?_)))))))))
    refine (c_nil ?_)
    refine (c_callS (ds := [(jL .bor jI) loads, jI cranes]) (e := (jT (jC jI (jC (jL .own (jT (jC jI (j1 jI)))) (j1 (jT (jC jS (j1 (jZ jI (jL .own jI)))))))))) (c_zones loads cranes) rfl (tg_cons (tg_cons tg_nil)) fun got => (c_nb (e := (jT (jC jI (jC (jL .own (jT (jC jI (j1 jI)))) (j1 (jT (jC jS (j1 (jZ jI (jL .own jI)))))))))) (x := got) (c_sto [.val false ((jL .shr jI) loads), .val false (jI cranes), .val false ((jT (jC jI (jC (jL .shr (jT (jC jI (j1 jI)))) (j1 (jT (jC jS (j1 (jZ jI (jL .shr jI))))))))) due), .val false ((jL .own jI) loads), .val false (jI turn), .val false ((jT (jC jI (jC (jL .own (jT (jC jI (j1 jI)))) (j1 (jT (jC jS (j1 (jZ jI (jL .own jI))))))))) got), .emp, .emp] rfl rfl ?_)))
    refine (s_seq (s_if (c_eB (c_or (c_not (c_tst (c_call (c_cons ?_))))))))
    refine (c_var (e := (jT (jC jI (jC (jL .own (jT (jC jI (j1 jI)))) (j1 (jT (jC jS (j1 (jZ jI (jL .own jI)))))))))) rfl ?_)
    refine (c_cons ?_)
    refine (c_var (e := (jT (jC jI (jC (jL .shr (jT (jC jI (j1 jI)))) (j1 (jT (jC jS (j1 (jZ jI (jL .shr jI)))))))))) rfl ?_)
    refine (c_nil ?_)
    refine (c_callS (ds := [(jT (jC jI (jC (jL .bor (jT (jC jI (j1 jI)))) (j1 (jT (jC jS (j1 (jZ jI (jL .bor jI))))))))) got, (jT (jC jI (jC (jL .shr (jT (jC jI (j1 jI)))) (j1 (jT (jC jS (j1 (jZ jI (jL .shr jI))))))))) due]) (c__law_same ((jT (jC jI (jC (jL .shr (jT (jC jI (j1 jI)))) (j1 (jT (jC jS (j1 (jZ jI (jL .shr jI))))))))) got) ((jT (jC jI (jC (jL .shr (jT (jC jI (j1 jI)))) (j1 (jT (jC jS (j1 (jZ jI (jL .shr jI))))))))) due)) rfl (tg_cons (tg_cons tg_nil)) fun t => (c_dB (c_borM (fun _ => ?_) fun t3 => (c_ite (fun _ => ?_) (fun _ => ?_)))))
    · refine (rf_id (c_not (c_tst (c_call (c_cons (c_var (e := (jL .own jI)) rfl (c_cons (c_var (e := (jL .shr jI)) rfl ?_))))))))
      refine (c_nil ?_)
      exact (c_callS (ds := [(jL .bor jI) loads, (jL .shr jI) loads]) (c__law_same ((jL .shr jI) loads) ((jL .shr jI) loads)) rfl (tg_cons (tg_cons tg_nil)) fun t2 => (c_dB (rf_eq rfl)))
    · exact (s_ret (c_eP (c_c (e := jB) (x := false) rfl (c_nb (e := jB) (x := false) (r_rt (x := false) rfl)))))
    · refine (s_nil (s_seq (s_set ?_)))
      refine (c_takeP (e := (jT (jC jI (jC (jL .own (jT (jC jI (j1 jI)))) (j1 (jT (jC jS (j1 (jZ jI (jL .own jI)))))))))) (x := got) (ex := (jL .own (jT (jC jI (j1 jI))))) (y := got.2.1) (ρ2 := [.val false ((jL .shr jI) loads), .val false (jI cranes), .val false ((jT (jC jI (jC (jL .shr (jT (jC jI (j1 jI)))) (j1 (jT (jC jS (j1 (jZ jI (jL .shr jI))))))))) due), .val false ((jL .own jI) loads), .val false (jI turn), .val false ((jT (jC jI (jC jH (j1 (jT (jC jS (j1 (jZ jI (jL .own jI))))))))) (got.1, (), got.2.2)), .emp, .emp]) rfl rfl rfl (c_sto [.val false ((jL .shr jI) loads), .val false (jI cranes), .val false ((jT (jC jI (jC (jL .shr (jT (jC jI (j1 jI)))) (j1 (jT (jC jS (j1 (jZ jI (jL .shr jI))))))))) due), .val false ((jL .own jI) loads), .val false (jI turn), .val false ((jT (jC jI (jC jH (j1 (jT (jC jS (j1 (jZ jI (jL .own jI))))))))) (got.1, (), got.2.2)), .val false ((jL .own (jT (jC jI (j1 jI)))) got.2.1), .emp] rfl rfl ?_))
      refine (s_seq (s_expr (c_mut (c_chkO rfl ?_))))
      refine (c_enil (c_mutK (ed := (jL .own (jT (jC jI (j1 jI))))) (er := fun _ => jU ()) (r := R.ok (got.2.1.reverse)) (fun cuts => [.val false ((jL .shr jI) loads), .val false (jI cranes), .val false ((jT (jC jI (jC (jL .shr (jT (jC jI (j1 jI)))) (j1 (jT (jC jS (j1 (jZ jI (jL .shr jI))))))))) due), .val false ((jL .own jI) loads), .val false (jI turn), .val false ((jT (jC jI (jC jH (j1 (jT (jC jS (j1 (jZ jI (jL .own jI))))))))) (got.1, (), got.2.2)), .val false ((jL .own (jT (jC jI (j1 jI)))) cuts), .emp]) rfl o_rev (fun _ => rfl) fun cuts => ?_))
      refine (s_seq (s_expr (c_mut (c_chkO rfl (c_econs (c_eP (c_opN (c_cons (c_c (e := jI) (x := 0) rfl (c_cons ?_))))))))))
      refine (c_var (e := jI) rfl (c_nil ?_))
      refine (c_pure (e := (jT (jC jI (j1 jI)))) (x := (0, turn)) rfl (c_nb (e := (jT (jC jI (j1 jI)))) (x := (0, turn)) ?_))
      refine (c_enil (c_mutK (ed := (jL .own (jT (jC jI (j1 jI))))) (er := fun _ => jU ()) (fun cuts2 => [.val false ((jL .shr jI) loads), .val false (jI cranes), .val false ((jT (jC jI (jC (jL .shr (jT (jC jI (j1 jI)))) (j1 (jT (jC jS (j1 (jZ jI (jL .shr jI))))))))) due), .val false ((jL .own jI) loads), .val false (jI turn), .val false ((jT (jC jI (jC jH (j1 (jT (jC jS (j1 (jZ jI (jL .own jI))))))))) (got.1, (), got.2.2)), .val false ((jL .own (jT (jC jI (j1 jI)))) cuts2), .emp]) rfl (o_app (e := (jT (jC jI (j1 jI)))) (x := (0, turn))) (fun _ => rfl) fun cuts2 => ?_))
      refine (s_wipA (s_if (c_eB (c_tst (c_op2 (c_op2 (c_op2 ?_)))))))
      refine (c_var (e := (jT (jC jI (jC (jL .shr (jT (jC jI (j1 jI)))) (j1 (jT (jC jS (j1 (jZ jI (jL .shr jI)))))))))) rfl ?_)
      refine (c_c (e := jI) (x := 2) rfl (c_pure (e := (jT (jC jS (j1 (jZ jI (jL .shr jI)))))) (x := due.2.2) rfl ?_))
      refine (c_c (e := jI) (x := 0) rfl (c_pure (e := jS) (x := due.2.2.1) rfl ?_))
      refine (c_c (e := jS) (x := (Str.ofString "starts")) rfl ?_)
      refine (c_pure (e := jB) (x := (decide (due.2.2.1 = (Str.ofString "starts")))) (o_eq (e := jS) (e' := jS) (x := due.2.2.1) (y := (Str.ofString "starts"))) (c_dB (c_ite (fun _ => ?_) (fun _ => ?_))))
      · refine (s_seq ?_)
        refine (s_cast (F := fun d_ => [.val false ((jL .shr jI) loads), .val false (jI cranes), .val false ((jT (jC jI (jC (jL .shr (jT (jC jI (j1 jI)))) (j1 (jT (jC jS (j1 (jZ jI (jL .shr jI))))))))) due), .val false ((jL .own jI) loads), .val false (jI turn), .val false d_, .val false ((jL .own (jT (jC jI (j1 jI)))) cuts2), .emp]) (ex := (jT (jC jI (jC jH (j1 (jT (jC jS (j1 (jZ jI (jL .own jI)))))))))) (ey := (jT (jC jI (jC jH (j1 (jT (jC jS (j1 (jL .own jI))))))))) (g := (fun p : (Int × Unit × (PySem.Str × (Int ⊕ (List Int)))) => ((fun p : (PySem.Str × (Int ⊕ (List Int))) => (Sum.getRight? p.2).map fun z => (p.1, z)) p.2.2).map fun z => (p.1, p.2.1, z))) (x := (got.1, (), got.2.2)) (fun x y h => by obtain ⟨p0, p1, ⟨p2, z⟩⟩ := x; cases z <;> simp at h <;> subst h <;> rfl) fun got2 => ?_)
        refine (s_set ?_)
        refine (c_takeP (e := (jT (jC jI (jC jH (j1 (jT (jC jS (j1 (jL .own jI))))))))) (x := got2) (ex := (jL .own jI)) (y := got2.2.2.2) (ρ2 := [.val false ((jL .shr jI) loads), .val false (jI cranes), .val false ((jT (jC jI (jC (jL .shr (jT (jC jI (j1 jI)))) (j1 (jT (jC jS (j1 (jZ jI (jL .shr jI))))))))) due), .val false ((jL .own jI) loads), .val false (jI turn), .val false ((jT (jC jI (jC jH (j1 (jT (jC jS (j1 jH))))))) (got2.1, got2.2.1, (got2.2.2.1, ()))), .val false ((jL .own (jT (jC jI (j1 jI)))) cuts2), .emp]) rfl rfl rfl (c_sto [.val false ((jL .shr jI) loads), .val false (jI cranes), .val false ((jT (jC jI (jC (jL .shr (jT (jC jI (j1 jI)))) (j1 (jT (jC jS (j1 (jZ jI (jL .shr jI))))))))) due), .val false ((jL .own jI) loads), .val false (jI turn), .val false ((jT (jC jI (jC jH (j1 (jT (jC jS (j1 jH))))))) (got2.1, got2.2.1, (got2.2.2.1, ()))), .val false ((jL .own (jT (jC jI (j1 jI)))) cuts2), .val false ((jL .own jI) got2.2.2.2)] rfl rfl ?_))
        refine (s_seq (s_expr (c_mut (c_chkO rfl (c_econs (c_eP (c_var (e := jI) rfl (c_nb (e := jI) (x := turn) ?_))))))))
        refine (c_enil (c_mutK (ed := (jL .own jI)) (er := fun _ => jU ()) (fun spots => [.val false ((jL .shr jI) loads), .val false (jI cranes), .val false ((jT (jC jI (jC (jL .shr (jT (jC jI (j1 jI)))) (j1 (jT (jC jS (j1 (jZ jI (jL .shr jI))))))))) due), .val false ((jL .own jI) loads), .val false (jI turn), .val false ((jT (jC jI (jC jH (j1 (jT (jC jS (j1 jH))))))) (got2.1, got2.2.1, (got2.2.2.1, ()))), .val false ((jL .own (jT (jC jI (j1 jI)))) cuts2), .val false ((jL .own jI) spots)]) rfl (o_app (e := jI) (x := turn)) (fun _ => rfl) fun spots => ?_))
        refine (s_expr (c_mut (c_chkO rfl ?_)))
        exact (c_enil (c_mutK (ed := (jL .own jI)) (er := fun _ => jU ()) (r := R.ok (spots.reverse)) (fun spots2 => [.val false ((jL .shr jI) loads), .val false (jI cranes), .val false ((jT (jC jI (jC (jL .shr (jT (jC jI (j1 jI)))) (j1 (jT (jC jS (j1 (jZ jI (jL .shr jI))))))))) due), .val false ((jL .own jI) loads), .val false (jI turn), .val false ((jT (jC jI (jC jH (j1 (jT (jC jS (j1 jH))))))) (got2.1, got2.2.1, (got2.2.2.1, ()))), .val false ((jL .own (jT (jC jI (j1 jI)))) cuts2), .val false ((jL .own jI) spots2)]) rfl o_rev (fun _ => rfl) fun spots2 => (c_wipN [.val false ((jL .shr jI) loads), .val false (jI cranes), .val false ((jT (jC jI (jC (jL .shr (jT (jC jI (j1 jI)))) (j1 (jT (jC jS (j1 (jZ jI (jL .shr jI))))))))) due), .val false ((jL .own jI) loads), .val false (jI turn), .val false ((jT (jC jI (jC jH (j1 (jT (jC jS (j1 jH))))))) (got2.1, got2.2.1, (got2.2.2.1, ()))), .val false ((jL .own (jT (jC jI (j1 jI)))) cuts2), .emp] rfl rfl (c_wipN [.val false ((jL .shr jI) loads), .val false (jI cranes), .val false ((jT (jC jI (jC (jL .shr (jT (jC jI (j1 jI)))) (j1 (jT (jC jS (j1 (jZ jI (jL .shr jI))))))))) due), .val false ((jL .own jI) loads), .emp, .emp, .emp, .emp] rfl rfl (hn ())))))
      · exact (s_nil (c_wipN [.val false ((jL .shr jI) loads), .val false (jI cranes), .val false ((jT (jC jI (jC (jL .shr (jT (jC jI (j1 jI)))) (j1 (jT (jC jS (j1 (jZ jI (jL .shr jI))))))))) due), .val false ((jL .own jI) loads), .val false (jI turn), .val false ((jT (jC jI (jC jH (j1 (jT (jC jS (j1 (jZ jI (jL .own jI))))))))) (got.1, (), got.2.2)), .val false ((jL .own (jT (jC jI (j1 jI)))) cuts2), .emp] rfl rfl (c_wipN [.val false ((jL .shr jI) loads), .val false (jI cranes), .val false ((jT (jC jI (jC (jL .shr (jT (jC jI (j1 jI)))) (j1 (jT (jC jS (j1 (jZ jI (jL .shr jI))))))))) due), .val false ((jL .own jI) loads), .emp, .emp, .emp, .emp] rfl rfl (hn ()))))

def m__law_beyond (pool : (Int × Int × Int)) (loads : (List Int)) (cranes : Int) : R (((List Int) × Int × PySem.Str) × (Int × Int × Int)) :=
  (m__law_draw pool (loads.length : Int)).bind fun (at_, pool2) =>
  (m__law_draw pool2 7).bind fun (way, pool3) =>
  if (decide (way < 2)) = true then ((idx [0, 5] way).bind fun t =>
  .ok ((loads, t, (Str.ofString "cranes")), pool3))
  else (if (decide (way = 2)) = true then (.ok (([], cranes, (Str.ofString "loads")), pool3))
  else (if (decide (way = 3)) = true then ((repR [0] 13).bind fun t2 =>
  (catR loads t2).bind fun t3 =>
  .ok ((t3, 0, (Str.ofString "loads")), pool3))
  else (if (decide (way = 4)) = true then ((repR [0] 13).bind fun t4 =>
  (catR loads t4).bind fun t5 =>
  .ok (((cut t5 none (some 13)), cranes, (Str.ofString "loads")), pool3))
  else ((idx [100, (-1)] (way - 5)).bind fun t6 =>
  (catR (cut loads none (some at_)) [t6]).bind fun t7 =>
  (catR t7 (cut loads (some (at_ + 1)) none)).bind fun t8 =>
  .ok ((t8, 5, (Str.ofString "loads")), pool3)))))
theorem c__law_beyond (pool : (Int × Int × Int)) (loads : (List Int)) (cranes : Int) : Rf (G__law_beyond [(jR .own (jC jI (jC jI (j1 jI)))) pool, (jL .shr jI) loads, jI cranes]) (fun z => ((jT (jC (jL .shr jI) (jC jI (j1 jS)))) z.1, [(jR .own (jC jI (jC jI (j1 jI)))) z.2])) (m__law_beyond pool loads cranes) := by
  refine d_body [.val true ((jR .own (jC jI (jC jI (j1 jI)))) pool), .val false ((jL .shr jI) loads), .val false (jI cranes), .emp, .emp] rfl rfl ?_
  refine (s_seq (s_set (c_shr (c_ecallm (c_chk rfl (c_econs (c_eP (c_opN (c_cons (c_var (e := (jL .shr jI)) rfl ?_))))))))))
  refine (c_nil (c_pure (e := jI) (x := (loads.length : Int)) o_len (c_nb (e := jI) (x := (loads.length : Int)) (c_enil ?_))))
  refine (c_callM (ds := [jI (loads.length : Int)]) (ρ := [.val true ((jR .own (jC jI (jC jI (j1 jI)))) pool), .val false ((jL .shr jI) loads), .val false (jI cranes), .emp, .emp]) (e := jI) (em := (jR .own (jC jI (jC jI (j1 jI))))) (fun pool2 => [.val true ((jR .own (jC jI (jC jI (j1 jI)))) pool2), .val false ((jL .shr jI) loads), .val false (jI cranes), .emp, .emp]) (c__law_draw pool (loads.length : Int)) rfl rfl (tg_cons tg_nil) (fun _ => rfl) fun at_ pool2 => (c_shrK (e := jI) (x := at_) (c_sto [.val true ((jR .own (jC jI (jC jI (j1 jI)))) pool2), .val false ((jL .shr jI) loads), .val false (jI cranes), .val false (jI at_), .emp] rfl rfl ?_)))
  refine (s_seq (s_set (c_shr (c_ecallm (c_chk rfl (c_econs (c_eP ?_)))))))
  refine (c_c (e := jI) (x := 7) rfl (c_nb (e := jI) (x := 7) (c_enil ?_)))
  refine (c_callM (ds := [jI 7]) (ρ := [.val true ((jR .own (jC jI (jC jI (j1 jI)))) pool2), .val false ((jL .shr jI) loads), .val false (jI cranes), .val false (jI at_), .emp]) (e := jI) (em := (jR .own (jC jI (jC jI (j1 jI))))) (fun pool3 => [.val true ((jR .own (jC jI (jC jI (j1 jI)))) pool3), .val false ((jL .shr jI) loads), .val false (jI cranes), .val false (jI at_), .emp]) (c__law_draw pool2 7) rfl rfl (tg_cons tg_nil) (fun _ => rfl) fun way pool3 => (c_shrK (e := jI) (x := way) (c_sto [.val true ((jR .own (jC jI (jC jI (j1 jI)))) pool3), .val false ((jL .shr jI) loads), .val false (jI cranes), .val false (jI at_), .val false (jI way)] rfl rfl ?_)))
  refine (s_seq (s_if (c_eB (c_tst (c_op2 (c_var (e := jI) rfl (c_c (e := jI) (x := 2) rfl ?_)))))))
  refine (c_pure (e := jB) (x := (decide (way < 2))) rfl (c_dB (c_ite (fun _ => ?_) (fun _ => ?_))))
  · refine (s_ret (c_shr (c_eP (c_opN (c_cons (c_var (e := (jL .shr jI)) rfl (c_cons (c_op2 (c_opN (c_cons ?_))))))))))
    refine (c_c (e := jI) (x := 0) rfl (c_cons (c_c (e := jI) (x := 5) rfl (c_nil ?_))))
    refine (c_pure (e := (jL .own jI)) (x := [0, 5]) rfl (c_var (e := jI) rfl (c_mon (e := jI) (o_ix (f := .own)) fun t => ?_)))
    refine (c_cons (c_c (e := jS) (x := (Str.ofString "cranes")) rfl (c_nil ?_)))
    exact (c_pure (e := (jT (jC (jL .shr jI) (jC jI (j1 jS))))) (x := (loads, t, (Str.ofString "cranes"))) rfl (c_nb (e := (jT (jC (jL .shr jI) (jC jI (j1 jS))))) (x := (loads, t, (Str.ofString "cranes"))) (c_shrK (e := (jT (jC (jL .shr jI) (jC jI (j1 jS))))) (x := (loads, t, (Str.ofString "cranes"))) (r_rt (x := ((loads, t, (Str.ofString "cranes")), pool3)) rfl))))
  · refine (s_nil (s_seq (s_if (c_eB (c_tst (c_op2 (c_var (e := jI) rfl (c_c (e := jI) (x := 2) rfl ?_))))))))
    refine (c_pure (e := jB) (x := (decide (way = 2))) (o_eq (e := jI) (e' := jI) (x := way) (y := 2)) (c_dB (c_ite (fun _ => ?_) (fun _ => ?_))))
    · refine (s_ret (c_shr (c_eP (c_opN (c_cons (c_opN (c_nil (c_pure (e := (jL .own jI)) (x := []) rfl (c_cons ?_)))))))))
      refine (c_var (e := jI) rfl (c_cons (c_c (e := jS) (x := (Str.ofString "loads")) rfl (c_nil ?_))))
      exact (c_pure (e := (jT (jC (jL .own jI) (jC jI (j1 jS))))) (x := ([], cranes, (Str.ofString "loads"))) rfl (c_nb (e := (jT (jC (jL .own jI) (jC jI (j1 jS))))) (x := ([], cranes, (Str.ofString "loads"))) (c_shrK (e := (jT (jC (jL .own jI) (jC jI (j1 jS))))) (x := ([], cranes, (Str.ofString "loads"))) (r_rt (x := (([], cranes, (Str.ofString "loads")), pool3)) rfl))))
    · refine (s_nil (s_seq (s_if (c_eB (c_tst (c_op2 (c_var (e := jI) rfl (c_c (e := jI) (x := 3) rfl ?_))))))))
      refine (c_pure (e := jB) (x := (decide (way = 3))) (o_eq (e := jI) (e' := jI) (x := way) (y := 3)) (c_dB (c_ite (fun _ => ?_) (fun _ => ?_))))
      · refine (s_ret (c_shr (c_eP (c_opN (c_cons (c_op2 (c_var (e := (jL .shr jI)) rfl (c_op2 (c_opN (c_cons ?_))))))))))
        refine (c_c (e := jI) (x := 0) rfl (c_nil (c_pure (e := (jL .own jI)) (x := [0]) rfl (c_c (e := jI) (x := 13) rfl ?_))))
        refine (c_mon (e := (jL .own jI)) o_rep fun t2 => ?_)
        refine (c_mon (e := (jL .own jI)) (o_cat (f := .shr) (g := .own) (e := jI) (xs := loads) (ys := t2)) fun t3 => (c_cons ?_))
        refine (c_c (e := jI) (x := 0) rfl (c_cons (c_c (e := jS) (x := (Str.ofString "loads")) rfl (c_nil ?_))))
        exact (c_pure (e := (jT (jC (jL .own jI) (jC jI (j1 jS))))) (x := (t3, 0, (Str.ofString "loads"))) rfl (c_nb (e := (jT (jC (jL .own jI) (jC jI (j1 jS))))) (x := (t3, 0, (Str.ofString "loads"))) (c_shrK (e := (jT (jC (jL .own jI) (jC jI (j1 jS))))) (x := (t3, 0, (Str.ofString "loads"))) (r_rt (x := ((t3, 0, (Str.ofString "loads")), pool3)) rfl))))
      · refine (s_nil (s_seq (s_if (c_eB (c_tst (c_op2 (c_var (e := jI) rfl (c_c (e := jI) (x := 4) rfl ?_))))))))
        refine (c_pure (e := jB) (x := (decide (way = 4))) (o_eq (e := jI) (e' := jI) (x := way) (y := 4)) (c_dB (c_ite (fun _ => ?_) (fun _ => ?_))))
        · refine (s_ret (c_shr (c_eP (c_opN (c_cons (c_slice rfl (c_op2 (c_var (e := (jL .shr jI)) rfl (c_op2 (c_opN ?_))))))))))
          refine (c_cons (c_c (e := jI) (x := 0) rfl (c_nil (c_pure (e := (jL .own jI)) (x := [0]) rfl ?_))))
          refine (c_c (e := jI) (x := 13) rfl (c_mon (e := (jL .own jI)) o_rep fun t4 => ?_))
          refine (c_mon (e := (jL .own jI)) (o_cat (f := .shr) (g := .own) (e := jI) (xs := loads) (ys := t4)) fun t5 => (c_pIn ?_))
          refine (c_pIs (c_c (e := jI) (x := 13) rfl (c_inI (c_pure (e := (jL .own jI)) (x := (cut t5 none (some 13))) o_slice ?_))))
          refine (c_cons (c_var (e := jI) rfl (c_cons (c_c (e := jS) (x := (Str.ofString "loads")) rfl (c_nil ?_)))))
          exact (c_pure (e := (jT (jC (jL .own jI) (jC jI (j1 jS))))) (x := ((cut t5 none (some 13)), cranes, (Str.ofString "loads"))) rfl (c_nb (e := (jT (jC (jL .own jI) (jC jI (j1 jS))))) (x := ((cut t5 none (some 13)), cranes, (Str.ofString "loads"))) (c_shrK (e := (jT (jC (jL .own jI) (jC jI (j1 jS))))) (x := ((cut t5 none (some 13)), cranes, (Str.ofString "loads"))) (r_rt (x := (((cut t5 none (some 13)), cranes, (Str.ofString "loads")), pool3)) rfl))))
        · refine (s_nil (s_ret (c_shr (c_eP (c_opN (c_cons (c_op2 (c_op2 (c_slice rfl (c_var (e := (jL .shr jI)) rfl ?_))))))))))
          refine (c_pIn (c_pIs (c_var (e := jI) rfl (c_inI ?_))))
          refine (c_pure (e := (jL .own jI)) (x := (cut loads none (some at_))) o_slice (c_opN (c_cons (c_op2 (c_opN (c_cons ?_))))))
          refine (c_c (e := jI) (x := 100) rfl (c_cons (c_op1 (c_c (e := jI) (x := 1) rfl (c_pure (e := jI) (x := (-1)) rfl ?_)))))
          refine (c_nil (c_pure (e := (jL .own jI)) (x := [100, (-1)]) rfl (c_op2 (c_var (e := jI) rfl ?_))))
          refine (c_c (e := jI) (x := 5) rfl (c_pure (e := jI) (x := (way - 5)) rfl ?_))
          refine (c_mon (e := jI) (o_ix (f := .own)) fun t6 => (c_nil (c_pure (e := (jL .own jI)) (x := [t6]) rfl ?_)))
          refine (c_mon (e := (jL .own jI)) (o_cat (f := .own) (g := .own) (e := jI) (xs := (cut loads none (some at_))) (ys := [t6])) fun t7 => ?_)
          refine (c_slice rfl (c_var (e := (jL .shr jI)) rfl (c_pIs (c_op2 (c_var (e := jI) rfl (c_c (e := jI) (x := 1) rfl ?_))))))
          refine (c_pure (e := jI) (x := (at_ + 1)) rfl (c_inI (c_pIn ?_)))
          refine (c_pure (e := (jL .own jI)) (x := (cut loads (some (at_ + 1)) none)) o_slice ?_)
          refine (c_mon (e := (jL .own jI)) (o_cat (f := .own) (g := .own) (e := jI) (xs := t7) (ys := (cut loads (some (at_ + 1)) none))) fun t8 => ?_)
          refine (c_cons (c_c (e := jI) (x := 5) rfl (c_cons (c_c (e := jS) (x := (Str.ofString "loads")) rfl (c_nil ?_)))))
          exact (c_pure (e := (jT (jC (jL .own jI) (jC jI (j1 jS))))) (x := (t8, 5, (Str.ofString "loads"))) rfl (c_nb (e := (jT (jC (jL .own jI) (jC jI (j1 jS))))) (x := (t8, 5, (Str.ofString "loads"))) (c_shrK (e := (jT (jC (jL .own jI) (jC jI (j1 jS))))) (x := (t8, 5, (Str.ofString "loads"))) (r_rt (x := ((t8, 5, (Str.ofString "loads")), pool3)) rfl))))

def m_law (script : (List Int)) : R Bool :=
  (rngR 2).bind fun ks =>
  forC (fun (turn : Int) (s : Unit) (nx_ : (Unit) → R Bool) (bk_ : (Unit) → R Bool) =>
  (m__law_pool script turn).bind fun pool =>
  (m__law_loads pool).bind fun (loads, pool2) =>
  (m__law_draw pool2 4).bind fun (t, pool3) =>
  (R.ok (1 + t)).bind fun cranes =>
  (m__law_parted loads cranes).bind fun t2 =>
  if (!t2) = true then (.ok false)
  else ((m__law_draw pool3 3).bind fun (t3, pool4) =>
  (R.ok (((cranes + t3) % 4) + 1)).bind fun other =>
  (m_zones loads other).bind fun t4 =>
  (m__law_due loads other).bind fun t5 =>
  (m__law_same ((jT (jC jI (jC (jL .shr (jT (jC jI (j1 jI)))) (j1 (jT (jC jS (j1 (jZ jI (jL .shr jI))))))))) t4) ((jT (jC jI (jC (jL .shr (jT (jC jI (j1 jI)))) (j1 (jT (jC jS (j1 (jZ jI (jL .shr jI))))))))) t5)).bind fun t6 =>
  if (!t6) = true then (.ok false)
  else ((m__law_beyond pool4 loads cranes).bind fun (row, pool5) =>
  (refR ((m_zones row.1 row.2.1).bind fun t7 =>
  .ok t7) row.2.2).bind fun t8 =>
  if (!t8) = true then (.ok false)
  else (nx_ ()))))
  (fun _ =>
  .ok true) ks ()
theorem c_law (script : (List Int)) : Rf (G_law [(jL .shr jI) script]) (fun z => (jB z, [])) (m_law script) := by
  refine d_body [.val false ((jL .shr jI) script), .emp, .emp, .emp, .emp, .emp, .emp] rfl rfl (s_seq ?_)
  refine (s_wipe [.val false ((jL .shr jI) script), .emp, .emp, .emp, .emp, .emp, .emp] rfl rfl (s_for (c_iRng1 (c_eP ?_))))
  refine (c_c (e := jI) (x := 2) rfl (c_nb (e := jI) (x := 2) (c_i1 fun ks => ?_)))
  refine (c_forL (e := jI) (s0 := ()) (fun s : Unit => [.val false ((jL .shr jI) script), .emp, .emp, .emp, .emp, .emp, .emp]) (fun _ => ?_) fun turn _ nx_ bk_ NX hn hk => (c_tg [.val false ((jL .shr jI) script), .val false (jI turn), .emp, .emp, .emp, .emp, .emp] rfl ?_))
  · exact (s_ret (c_eP (c_c (e := jB) (x := true) rfl (c_nb (e := jB) (x := true) (r_rt (x := true) rfl)))))
  · refine (s_wipA (s_seq (s_set (c_eP (c_call (c_cons (c_var (e := (jL .shr jI)) rfl (c_cons (c_var (e := jI) rfl ?_)))))))))
    refine (c_nil ?_)
    refine (c_callS (ds := [(jL .shr jI) script, jI turn]) (e := (jR .own (jC jI (jC jI (j1 jI))))) (c__law_pool script turn) rfl (tg_cons (tg_cons tg_nil)) fun pool => (c_nb (e := (jR .own (jC jI (jC jI (j1 jI))))) (x := pool) (c_sto [.val false ((jL .shr jI) script), .val false (jI turn), .val false ((jR .own (jC jI (jC jI (j1 jI)))) pool), .emp, .emp, .emp, .emp] rfl rfl ?_)))
    refine (s_seq (s_set (c_shr (c_ecallm (c_chk rfl (c_enil ?_))))))
    refine (c_callM (ds := []) (ρ := [.val false ((jL .shr jI) script), .val false (jI turn), .val false ((jR .own (jC jI (jC jI (j1 jI)))) pool), .emp, .emp, .emp, .emp]) (e := (jL .own jI)) (em := (jR .own (jC jI (jC jI (j1 jI))))) (fun pool2 => [.val false ((jL .shr jI) script), .val false (jI turn), .val false ((jR .own (jC jI (jC jI (j1 jI)))) pool2), .emp, .emp, .emp, .emp]) (c__law_loads pool) rfl rfl tg_nil (fun _ => rfl) fun loads pool2 => (c_shrK (e := (jL .own jI)) (x := loads) (c_sto [.val false ((jL .shr jI) script), .val false (jI turn), .val false ((jR .own (jC jI (jC jI (j1 jI)))) pool2), .val false ((jL .shr jI) loads), .emp, .emp, .emp] rfl rfl ?_)))
    refine (s_seq (s_set (c_shr (c_eop2 (c_eP (c_c (e := jI) (x := 1) rfl (c_nb (e := jI) (x := 1) ?_)))))))
    refine (c_ecallm (c_chk rfl (c_econs (c_eP (c_c (e := jI) (x := 4) rfl (c_nb (e := jI) (x := 4) (c_enil ?_)))))))
    refine (c_callM (ds := [jI 4]) (ρ := [.val false ((jL .shr jI) script), .val false (jI turn), .val false ((jR .own (jC jI (jC jI (j1 jI)))) pool2), .val false ((jL .shr jI) loads), .emp, .emp, .emp]) (e := jI) (em := (jR .own (jC jI (jC jI (j1 jI))))) (fun pool3 => [.val false ((jL .shr jI) script), .val false (jI turn), .val false ((jR .own (jC jI (jC jI (j1 jI)))) pool3), .val false ((jL .shr jI) loads), .emp, .emp, .emp]) (c__law_draw pool2 4) rfl rfl (tg_cons tg_nil) (fun _ => rfl) fun t pool3 => ?_)
    refine (c_pure (e := jI) (x := (1 + t)) rfl (c_shrK (e := jI) (x := (1 + t)) (c_stoL (e := jI) (t := (1 + t)) (fun cranes => [.val false ((jL .shr jI) script), .val false (jI turn), .val false ((jR .own (jC jI (jC jI (j1 jI)))) pool3), .val false ((jL .shr jI) loads), .val false (jI cranes), .emp, .emp]) rfl (fun _ => rfl) fun cranes => ?_)))
    refine (s_seq (s_if (c_eB (c_not (c_tst (c_call (c_cons (c_var (e := (jL .shr jI)) rfl (c_cons ?_)))))))))
    refine (c_var (e := jI) rfl (c_nil ?_))
    refine (c_callS (ds := [(jL .shr jI) loads, jI cranes]) (e := jB) (c__law_parted loads cranes) rfl (tg_cons (tg_cons tg_nil)) fun t2 => (c_dB (c_ite (fun _ => ?_) (fun _ => ?_))))
    · exact (s_ret (c_eP (c_c (e := jB) (x := false) rfl (c_nb (e := jB) (x := false) (r_rt (x := false) rfl)))))
    · refine (s_nil (s_seq (s_set (c_shr (c_eop2 (c_eop2 (c_eopN (c_econs (c_eop2 (c_eP ?_))))))))))
      refine (c_var (e := jI) rfl (c_nb (e := jI) (x := cranes) (c_ecallm (c_chk rfl (c_econs (c_eP ?_))))))
      refine (c_c (e := jI) (x := 3) rfl (c_nb (e := jI) (x := 3) (c_enil ?_)))
      refine (c_callM (ds := [jI 3]) (ρ := [.val false ((jL .shr jI) script), .val false (jI turn), .val false ((jR .own (jC jI (jC jI (j1 jI)))) pool3), .val false ((jL .shr jI) loads), .val false (jI cranes), .emp, .emp]) (e := jI) (em := (jR .own (jC jI (jC jI (j1 jI))))) (fun pool4 => [.val false ((jL .shr jI) script), .val false (jI turn), .val false ((jR .own (jC jI (jC jI (j1 jI)))) pool4), .val false ((jL .shr jI) loads), .val false (jI cranes), .emp, .emp]) (c__law_draw pool3 3) rfl rfl (tg_cons tg_nil) (fun _ => rfl) fun t3 pool4 => ?_)
      refine (c_pure (e := jI) (x := (cranes + t3)) rfl (c_enil (c_pure (e := jI) (x := (cranes + t3)) o_int (c_eP ?_))))
      refine (c_c (e := jI) (x := 4) rfl (c_nb (e := jI) (x := 4) ?_))
      refine (c_pure (e := jI) (x := ((cranes + t3) % 4)) (o_modc (by decide)) (c_eP ?_))
      refine (c_c (e := jI) (x := 1) rfl (c_nb (e := jI) (x := 1) ?_))
      refine (c_pure (e := jI) (x := (((cranes + t3) % 4) + 1)) rfl (c_shrK (e := jI) (x := (((cranes + t3) % 4) + 1)) (c_stoL (e := jI) (t := (((cranes + t3) % 4) + 1)) (fun other => [.val false ((jL .shr jI) script), .val false (jI turn), .val false ((jR .own (jC jI (jC jI (j1 jI)))) pool4), .val false ((jL .shr jI) loads), .val false (jI cranes), .val false (jI other), .emp]) rfl (fun _ => rfl) fun other => ?_)))
      refine (s_seq (s_if (c_eB (c_not (c_tst (c_call (c_cons (c_call (c_cons (c_opN (c_cons ?_)))))))))))
      refine (c_var (e := (jL .shr jI)) rfl (c_nil (c_pure (e := (jL .own jI)) (x := loads) o_list (c_cons ?_))))
      refine (c_var (e := jI) rfl (c_nil ?_))
      refine (c_callS (ds := [(jL .own jI) loads, jI other]) (e := (jT (jC jI (jC (jL .own (jT (jC jI (j1 jI)))) (j1 (jT (jC jS (j1 (jZ jI (jL .own jI)))))))))) (c_zones loads other) rfl (tg_cons (tg_cons tg_nil)) fun t4 => ?_)
      refine (c_cons (c_call (c_cons (c_var (e := (jL .shr jI)) rfl (c_cons (c_var (e := jI) rfl (c_nil ?_)))))))
      refine (c_callN (ds := [(jL .shr jI) loads, jI other]) (e := (jT (jC jI (jC (jL .shr (jT (jC jI (j1 jI)))) (j1 (jT (jC jS (j1 (jZ jI (jL .shr jI)))))))))) (c__law_due loads other) rfl (tg_cons (tg_cons tg_nil)) (by simp [jL, jR, jT, jC, j1, jI, jB, jS]) fun t5 => ?_)
      refine (c_nil ?_)
      refine (c_callS (ds := [(jT (jC jI (jC (jL .own (jT (jC jI (j1 jI)))) (j1 (jT (jC jS (j1 (jZ jI (jL .own jI))))))))) t4, (jT (jC jI (jC (jL .shr (jT (jC jI (j1 jI)))) (j1 (jT (jC jS (j1 (jZ jI (jL .shr jI))))))))) t5]) (c__law_same ((jT (jC jI (jC (jL .shr (jT (jC jI (j1 jI)))) (j1 (jT (jC jS (j1 (jZ jI (jL .shr jI))))))))) t4) ((jT (jC jI (jC (jL .shr (jT (jC jI (j1 jI)))) (j1 (jT (jC jS (j1 (jZ jI (jL .shr jI))))))))) t5)) rfl (tg_cons (tg_cons tg_nil)) fun t6 => (c_dB (c_ite (fun _ => ?_) (fun _ => ?_))))
      · exact (s_ret (c_eP (c_c (e := jB) (x := false) rfl (c_nb (e := jB) (x := false) (r_rt (x := false) rfl)))))
      · refine (s_nil (s_seq (s_set (c_shr (c_ecallm (c_chk rfl (c_econs (c_eP ?_))))))))
        refine (c_var (e := (jL .shr jI)) rfl (c_nb (e := (jL .shr jI)) (x := loads) (c_econs (c_eP ?_))))
        refine (c_var (e := jI) rfl (c_nb (e := jI) (x := cranes) (c_enil ?_)))
        refine (c_callM (ds := [(jL .shr jI) loads, jI cranes]) (ρ := [.val false ((jL .shr jI) script), .val false (jI turn), .val false ((jR .own (jC jI (jC jI (j1 jI)))) pool4), .val false ((jL .shr jI) loads), .val false (jI cranes), .val false (jI other), .emp]) (e := (jT (jC (jL .shr jI) (jC jI (j1 jS))))) (em := (jR .own (jC jI (jC jI (j1 jI))))) (fun pool5 => [.val false ((jL .shr jI) script), .val false (jI turn), .val false ((jR .own (jC jI (jC jI (j1 jI)))) pool5), .val false ((jL .shr jI) loads), .val false (jI cranes), .val false (jI other), .emp]) (c__law_beyond pool4 loads cranes) rfl rfl (tg_cons (tg_cons tg_nil)) (fun _ => rfl) fun row pool5 => (c_shrK (e := (jT (jC (jL .shr jI) (jC jI (j1 jS))))) (x := row) (c_sto [.val false ((jL .shr jI) script), .val false (jI turn), .val false ((jR .own (jC jI (jC jI (j1 jI)))) pool5), .val false ((jL .shr jI) loads), .val false (jI cranes), .val false (jI other), .val false ((jT (jC (jL .shr jI) (jC jI (j1 jS)))) row)] rfl rfl ?_)))
        refine (s_if (c_eB (c_not (c_tst (c_refE (c_op2 (c_var (e := (jT (jC (jL .shr jI) (jC jI (j1 jS))))) rfl ?_)))))))
        refine (c_c (e := jI) (x := 2) rfl ?_)
        refine (c_pure (e := jS) (x := row.2.2) rfl (c_refK (e := (jT (jC jI (jC (jL .own (jT (jC jI (j1 jI)))) (j1 (jT (jC jS (j1 (jZ jI (jL .own jI)))))))))) ?_ fun t8 => (c_dB (c_ite (fun _ => ?_) (fun _ => ?_)))))
        · refine (rf_id (c_call (c_cons (c_opN (c_cons (c_op2 (c_var (e := (jT (jC (jL .shr jI) (jC jI (j1 jS))))) rfl ?_)))))))
          refine (c_c (e := jI) (x := 0) rfl (c_pure (e := (jL .shr jI)) (x := row.1) rfl (c_nil ?_)))
          refine (c_pure (e := (jL .own jI)) (x := row.1) o_list (c_cons (c_op2 ?_)))
          refine (c_var (e := (jT (jC (jL .shr jI) (jC jI (j1 jS))))) rfl (c_c (e := jI) (x := 1) rfl ?_))
          refine (c_pure (e := jI) (x := row.2.1) rfl (c_nil ?_))
          exact (c_callS (ds := [(jL .own jI) row.1, jI row.2.1]) (e := (jT (jC jI (jC (jL .own (jT (jC jI (j1 jI)))) (j1 (jT (jC jS (j1 (jZ jI (jL .own jI)))))))))) (c_zones row.1 row.2.1) rfl (tg_cons (tg_cons tg_nil)) fun t7 => (rf_eq rfl))
        · exact (s_ret (c_eP (c_c (e := jB) (x := false) rfl (c_nb (e := jB) (x := false) (r_rt (x := false) rfl)))))
        · exact (s_nil (c_wipN [.val false ((jL .shr jI) script), .emp, .emp, .emp, .emp, .emp, .emp] rfl rfl (hn ())))

theorem ck__law_cell (script : (List Int)) (k : Int) : Rf (G__law_cell [(jL .kon jI) script, jI k]) (fun z => (jI z, [])) (m__law_cell script k) := by
  refine d_body [.val false ((jL .kon jI) script), .val false (jI k)] rfl rfl (s_seq (s_if (c_eB (c_tst (c_op2 ?_)))))
  refine (c_var (e := jI) rfl (c_opN (c_cons (c_var (e := (jL .kon jI)) rfl (c_nil ?_)))))
  refine (c_pure (e := jI) (x := (script.length : Int)) o_len ?_)
  refine (c_pure (e := jB) (x := (decide (k < (script.length : Int)))) rfl (c_dB (c_ite (fun _ => ?_) (fun _ => ?_))))
  · refine (s_ret (c_eP (c_opN (c_cons (c_opN (c_cons (c_op2 (c_var (e := (jL .kon jI)) rfl (c_var (e := jI) rfl ?_)))))))))
    refine (c_mon (e := jI) (o_ix (f := .kon)) fun t => (c_nil (c_pure (e := jI) (x := t) o_int (c_nil ?_))))
    exact (c_pure (e := jI) (x := (iabs t)) o_abs (c_nb (e := jI) (x := (iabs t)) (r_rt (x := (iabs t)) rfl)))
  · exact (s_nil (s_ret (c_eP (c_c (e := jI) (x := 0) rfl (c_nb (e := jI) (x := 0) (r_rt (x := 0) rfl))))))


theorem ck__law_pool (script : (List Int)) (k : Int) : Rf (G__law_pool [(jL .kon jI) script, jI k]) (fun z => ((jR .own (jC jI (jC jI (j1 jI)))) z, [])) (m__law_pool script k) := by
  refine d_body [.val false ((jL .kon jI) script), .val false (jI k), .emp] rfl rfl (s_seq (s_set (c_shr (c_eP (c_call ?_)))))
  refine (c_cons (c_var (e := (jL .kon jI)) rfl (c_cons (c_var (e := jI) rfl (c_nil ?_)))))
  refine (c_callS (ds := [(jL .kon jI) script, jI k]) (e := jI) (ck__law_cell script k) rfl (tg_cons (tg_cons tg_nil)) fun cell => (c_nb (e := jI) (x := cell) (c_shrK (e := jI) (x := cell) (c_sto [.val false ((jL .kon jI) script), .val false (jI k), .val false (jI cell)] rfl rfl ?_))))
  refine (s_seq (s_if (c_eB (c_tst (c_op2 (c_var (e := jI) rfl (c_op2 (c_c (e := jI) (x := 10) rfl ?_))))))))
  refine (c_c (e := jI) (x := 18) rfl (c_pure (e := jI) (x := 1000000000000000000) (o_powc (by decide) (by decide)) ?_))
  refine (c_pure (e := jB) (x := (decide (cell ≥ 1000000000000000000))) rfl (c_dB (c_ite (fun _ => ?_) (fun _ => ?_))))
  · refine (s_ret (c_eP (c_opN (c_cons (c_op2 (c_var (e := jI) rfl (c_op2 (c_c (e := jI) (x := 10) rfl ?_))))))))
    refine (c_c (e := jI) (x := 18) rfl (c_pure (e := jI) (x := 1000000000000000000) (o_powc (by decide) (by decide)) ?_))
    refine (c_pure (e := jI) (x := (cell - 1000000000000000000)) rfl (c_cons (c_op2 (c_opN (c_cons (c_var (e := jI) rfl ?_))))))
    refine (c_nil (c_pure (e := jI) (x := cell) o_int (c_c (e := jI) (x := 999999937) rfl ?_)))
    refine (c_pure (e := jI) (x := (cell % 999999937)) (o_modc (by decide)) (c_cons (c_c (e := jI) (x := 0) rfl (c_nil ?_))))
    exact (c_pure (e := (jR .own (jC jI (jC jI (j1 jI))))) (x := ((cell - 1000000000000000000), (cell % 999999937), 0)) rfl (c_nb (e := (jR .own (jC jI (jC jI (j1 jI))))) (x := ((cell - 1000000000000000000), (cell % 999999937), 0)) (r_rt (x := ((cell - 1000000000000000000), (cell % 999999937), 0)) rfl)))
  · refine (s_nil (s_ret (c_eP (c_opN (c_cons (c_c (e := jI) (x := 0) rfl (c_cons (c_op2 (c_opN (c_cons (c_op2 ?_)))))))))))
    refine (c_op2 (c_var (e := jI) rfl (c_c (e := jI) (x := 63) rfl ?_)))
    refine (c_pure (e := jI) (x := (cell * 63)) (o_mulc ⟨by decide, by decide⟩) (c_var (e := jI) rfl ?_))
    refine (c_pure (e := jI) (x := ((cell * 63) + k)) rfl (c_nil (c_pure (e := jI) (x := ((cell * 63) + k)) o_int (c_op2 ?_))))
    refine (c_c (e := jI) (x := 10) rfl (c_c (e := jI) (x := 15) rfl ?_))
    refine (c_pure (e := jI) (x := 1000000000000000) (o_powc (by decide) (by decide)) ?_)
    refine (c_pure (e := jI) (x := (((cell * 63) + k) % 1000000000000000)) (o_modc (by decide)) (c_cons ?_))
    refine (c_c (e := jI) (x := 0) rfl (c_nil ?_))
    exact (c_pure (e := (jR .own (jC jI (jC jI (j1 jI))))) (x := (0, (((cell * 63) + k) % 1000000000000000), 0)) rfl (c_nb (e := (jR .own (jC jI (jC jI (j1 jI))))) (x := (0, (((cell * 63) + k) % 1000000000000000), 0)) (r_rt (x := (0, (((cell * 63) + k) % 1000000000000000), 0)) rfl)))


theorem ck_law (script : (List Int)) : Rf (G_law [(jL .kon jI) script]) (fun z => (jB z, [])) (m_law script) := by
  refine d_body [.val false ((jL .kon jI) script), .emp, .emp, .emp, .emp, .emp, .emp] rfl rfl (s_seq ?_)
  refine (s_wipe [.val false ((jL .kon jI) script), .emp, .emp, .emp, .emp, .emp, .emp] rfl rfl (s_for (c_iRng1 (c_eP ?_))))
  refine (c_c (e := jI) (x := 2) rfl (c_nb (e := jI) (x := 2) (c_i1 fun ks => ?_)))
  refine (c_forL (e := jI) (s0 := ()) (fun s : Unit => [.val false ((jL .kon jI) script), .emp, .emp, .emp, .emp, .emp, .emp]) (fun _ => ?_) fun turn _ nx_ bk_ NX hn hk => (c_tg [.val false ((jL .kon jI) script), .val false (jI turn), .emp, .emp, .emp, .emp, .emp] rfl ?_))
  · exact (s_ret (c_eP (c_c (e := jB) (x := true) rfl (c_nb (e := jB) (x := true) (r_rt (x := true) rfl)))))
  · refine (s_wipA (s_seq (s_set (c_eP (c_call (c_cons (c_var (e := (jL .kon jI)) rfl (c_cons (c_var (e := jI) rfl ?_)))))))))
    refine (c_nil ?_)
    refine (c_callS (ds := [(jL .kon jI) script, jI turn]) (e := (jR .own (jC jI (jC jI (j1 jI))))) (ck__law_pool script turn) rfl (tg_cons (tg_cons tg_nil)) fun pool => (c_nb (e := (jR .own (jC jI (jC jI (j1 jI))))) (x := pool) (c_sto [.val false ((jL .kon jI) script), .val false (jI turn), .val false ((jR .own (jC jI (jC jI (j1 jI)))) pool), .emp, .emp, .emp, .emp] rfl rfl ?_)))
    refine (s_seq (s_set (c_shr (c_ecallm (c_chk rfl (c_enil ?_))))))
    refine (c_callM (ds := []) (ρ := [.val false ((jL .kon jI) script), .val false (jI turn), .val false ((jR .own (jC jI (jC jI (j1 jI)))) pool), .emp, .emp, .emp, .emp]) (e := (jL .own jI)) (em := (jR .own (jC jI (jC jI (j1 jI))))) (fun pool2 => [.val false ((jL .kon jI) script), .val false (jI turn), .val false ((jR .own (jC jI (jC jI (j1 jI)))) pool2), .emp, .emp, .emp, .emp]) (c__law_loads pool) rfl rfl tg_nil (fun _ => rfl) fun loads pool2 => (c_shrK (e := (jL .own jI)) (x := loads) (c_sto [.val false ((jL .kon jI) script), .val false (jI turn), .val false ((jR .own (jC jI (jC jI (j1 jI)))) pool2), .val false ((jL .shr jI) loads), .emp, .emp, .emp] rfl rfl ?_)))
    refine (s_seq (s_set (c_shr (c_eop2 (c_eP (c_c (e := jI) (x := 1) rfl (c_nb (e := jI) (x := 1) ?_)))))))
    refine (c_ecallm (c_chk rfl (c_econs (c_eP (c_c (e := jI) (x := 4) rfl (c_nb (e := jI) (x := 4) (c_enil ?_)))))))
    refine (c_callM (ds := [jI 4]) (ρ := [.val false ((jL .kon jI) script), .val false (jI turn), .val false ((jR .own (jC jI (jC jI (j1 jI)))) pool2), .val false ((jL .shr jI) loads), .emp, .emp, .emp]) (e := jI) (em := (jR .own (jC jI (jC jI (j1 jI))))) (fun pool3 => [.val false ((jL .kon jI) script), .val false (jI turn), .val false ((jR .own (jC jI (jC jI (j1 jI)))) pool3), .val false ((jL .shr jI) loads), .emp, .emp, .emp]) (c__law_draw pool2 4) rfl rfl (tg_cons tg_nil) (fun _ => rfl) fun t pool3 => ?_)
    refine (c_pure (e := jI) (x := (1 + t)) rfl (c_shrK (e := jI) (x := (1 + t)) (c_stoL (e := jI) (t := (1 + t)) (fun cranes => [.val false ((jL .kon jI) script), .val false (jI turn), .val false ((jR .own (jC jI (jC jI (j1 jI)))) pool3), .val false ((jL .shr jI) loads), .val false (jI cranes), .emp, .emp]) rfl (fun _ => rfl) fun cranes => ?_)))
    refine (s_seq (s_if (c_eB (c_not (c_tst (c_call (c_cons (c_var (e := (jL .shr jI)) rfl (c_cons ?_)))))))))
    refine (c_var (e := jI) rfl (c_nil ?_))
    refine (c_callS (ds := [(jL .shr jI) loads, jI cranes]) (e := jB) (c__law_parted loads cranes) rfl (tg_cons (tg_cons tg_nil)) fun t2 => (c_dB (c_ite (fun _ => ?_) (fun _ => ?_))))
    · exact (s_ret (c_eP (c_c (e := jB) (x := false) rfl (c_nb (e := jB) (x := false) (r_rt (x := false) rfl)))))
    · refine (s_nil (s_seq (s_set (c_shr (c_eop2 (c_eop2 (c_eopN (c_econs (c_eop2 (c_eP ?_))))))))))
      refine (c_var (e := jI) rfl (c_nb (e := jI) (x := cranes) (c_ecallm (c_chk rfl (c_econs (c_eP ?_))))))
      refine (c_c (e := jI) (x := 3) rfl (c_nb (e := jI) (x := 3) (c_enil ?_)))
      refine (c_callM (ds := [jI 3]) (ρ := [.val false ((jL .kon jI) script), .val false (jI turn), .val false ((jR .own (jC jI (jC jI (j1 jI)))) pool3), .val false ((jL .shr jI) loads), .val false (jI cranes), .emp, .emp]) (e := jI) (em := (jR .own (jC jI (jC jI (j1 jI))))) (fun pool4 => [.val false ((jL .kon jI) script), .val false (jI turn), .val false ((jR .own (jC jI (jC jI (j1 jI)))) pool4), .val false ((jL .shr jI) loads), .val false (jI cranes), .emp, .emp]) (c__law_draw pool3 3) rfl rfl (tg_cons tg_nil) (fun _ => rfl) fun t3 pool4 => ?_)
      refine (c_pure (e := jI) (x := (cranes + t3)) rfl (c_enil (c_pure (e := jI) (x := (cranes + t3)) o_int (c_eP ?_))))
      refine (c_c (e := jI) (x := 4) rfl (c_nb (e := jI) (x := 4) ?_))
      refine (c_pure (e := jI) (x := ((cranes + t3) % 4)) (o_modc (by decide)) (c_eP ?_))
      refine (c_c (e := jI) (x := 1) rfl (c_nb (e := jI) (x := 1) ?_))
      refine (c_pure (e := jI) (x := (((cranes + t3) % 4) + 1)) rfl (c_shrK (e := jI) (x := (((cranes + t3) % 4) + 1)) (c_stoL (e := jI) (t := (((cranes + t3) % 4) + 1)) (fun other => [.val false ((jL .kon jI) script), .val false (jI turn), .val false ((jR .own (jC jI (jC jI (j1 jI)))) pool4), .val false ((jL .shr jI) loads), .val false (jI cranes), .val false (jI other), .emp]) rfl (fun _ => rfl) fun other => ?_)))
      refine (s_seq (s_if (c_eB (c_not (c_tst (c_call (c_cons (c_call (c_cons (c_opN (c_cons ?_)))))))))))
      refine (c_var (e := (jL .shr jI)) rfl (c_nil (c_pure (e := (jL .own jI)) (x := loads) o_list (c_cons ?_))))
      refine (c_var (e := jI) rfl (c_nil ?_))
      refine (c_callS (ds := [(jL .own jI) loads, jI other]) (e := (jT (jC jI (jC (jL .own (jT (jC jI (j1 jI)))) (j1 (jT (jC jS (j1 (jZ jI (jL .own jI)))))))))) (c_zones loads other) rfl (tg_cons (tg_cons tg_nil)) fun t4 => ?_)
      refine (c_cons (c_call (c_cons (c_var (e := (jL .shr jI)) rfl (c_cons (c_var (e := jI) rfl (c_nil ?_)))))))
      refine (c_callN (ds := [(jL .shr jI) loads, jI other]) (e := (jT (jC jI (jC (jL .shr (jT (jC jI (j1 jI)))) (j1 (jT (jC jS (j1 (jZ jI (jL .shr jI)))))))))) (c__law_due loads other) rfl (tg_cons (tg_cons tg_nil)) (by simp [jL, jR, jT, jC, j1, jI, jB, jS]) fun t5 => ?_)
      refine (c_nil ?_)
      refine (c_callS (ds := [(jT (jC jI (jC (jL .own (jT (jC jI (j1 jI)))) (j1 (jT (jC jS (j1 (jZ jI (jL .own jI))))))))) t4, (jT (jC jI (jC (jL .shr (jT (jC jI (j1 jI)))) (j1 (jT (jC jS (j1 (jZ jI (jL .shr jI))))))))) t5]) (c__law_same ((jT (jC jI (jC (jL .shr (jT (jC jI (j1 jI)))) (j1 (jT (jC jS (j1 (jZ jI (jL .shr jI))))))))) t4) ((jT (jC jI (jC (jL .shr (jT (jC jI (j1 jI)))) (j1 (jT (jC jS (j1 (jZ jI (jL .shr jI))))))))) t5)) rfl (tg_cons (tg_cons tg_nil)) fun t6 => (c_dB (c_ite (fun _ => ?_) (fun _ => ?_))))
      · exact (s_ret (c_eP (c_c (e := jB) (x := false) rfl (c_nb (e := jB) (x := false) (r_rt (x := false) rfl)))))
      · refine (s_nil (s_seq (s_set (c_shr (c_ecallm (c_chk rfl (c_econs (c_eP ?_))))))))
        refine (c_var (e := (jL .shr jI)) rfl (c_nb (e := (jL .shr jI)) (x := loads) (c_econs (c_eP ?_))))
        refine (c_var (e := jI) rfl (c_nb (e := jI) (x := cranes) (c_enil ?_)))
        refine (c_callM (ds := [(jL .shr jI) loads, jI cranes]) (ρ := [.val false ((jL .kon jI) script), .val false (jI turn), .val false ((jR .own (jC jI (jC jI (j1 jI)))) pool4), .val false ((jL .shr jI) loads), .val false (jI cranes), .val false (jI other), .emp]) (e := (jT (jC (jL .shr jI) (jC jI (j1 jS))))) (em := (jR .own (jC jI (jC jI (j1 jI))))) (fun pool5 => [.val false ((jL .kon jI) script), .val false (jI turn), .val false ((jR .own (jC jI (jC jI (j1 jI)))) pool5), .val false ((jL .shr jI) loads), .val false (jI cranes), .val false (jI other), .emp]) (c__law_beyond pool4 loads cranes) rfl rfl (tg_cons (tg_cons tg_nil)) (fun _ => rfl) fun row pool5 => (c_shrK (e := (jT (jC (jL .shr jI) (jC jI (j1 jS))))) (x := row) (c_sto [.val false ((jL .kon jI) script), .val false (jI turn), .val false ((jR .own (jC jI (jC jI (j1 jI)))) pool5), .val false ((jL .shr jI) loads), .val false (jI cranes), .val false (jI other), .val false ((jT (jC (jL .shr jI) (jC jI (j1 jS)))) row)] rfl rfl ?_)))
        refine (s_if (c_eB (c_not (c_tst (c_refE (c_op2 (c_var (e := (jT (jC (jL .shr jI) (jC jI (j1 jS))))) rfl ?_)))))))
        refine (c_c (e := jI) (x := 2) rfl ?_)
        refine (c_pure (e := jS) (x := row.2.2) rfl (c_refK (e := (jT (jC jI (jC (jL .own (jT (jC jI (j1 jI)))) (j1 (jT (jC jS (j1 (jZ jI (jL .own jI)))))))))) ?_ fun t8 => (c_dB (c_ite (fun _ => ?_) (fun _ => ?_)))))
        · refine (rf_id (c_call (c_cons (c_opN (c_cons (c_op2 (c_var (e := (jT (jC (jL .shr jI) (jC jI (j1 jS))))) rfl ?_)))))))
          refine (c_c (e := jI) (x := 0) rfl (c_pure (e := (jL .shr jI)) (x := row.1) rfl (c_nil ?_)))
          refine (c_pure (e := (jL .own jI)) (x := row.1) o_list (c_cons (c_op2 ?_)))
          refine (c_var (e := (jT (jC (jL .shr jI) (jC jI (j1 jS))))) rfl (c_c (e := jI) (x := 1) rfl ?_))
          refine (c_pure (e := jI) (x := row.2.1) rfl (c_nil ?_))
          exact (c_callS (ds := [(jL .own jI) row.1, jI row.2.1]) (e := (jT (jC jI (jC (jL .own (jT (jC jI (j1 jI)))) (j1 (jT (jC jS (j1 (jZ jI (jL .own jI)))))))))) (c_zones row.1 row.2.1) rfl (tg_cons (tg_cons tg_nil)) fun t7 => (rf_eq rfl))
        · exact (s_ret (c_eP (c_c (e := jB) (x := false) rfl (c_nb (e := jB) (x := false) (r_rt (x := false) rfl)))))
        · exact (s_nil (c_wipN [.val false ((jL .kon jI) script), .emp, .emp, .emp, .emp, .emp, .emp] rfl rfl (hn ())))

/-! ### what is alike is the same -/
theorem same_loop {m : Nat} (IH : ∀ got due, un got = un due → pln m due = true → Wp (G__law_same (m + 1) [got, due]) RTrue) {got due : D} {xs ys : List D} (hgot : ∀ i : Int, 0 ≤ i → i < ys.length → dIx (got.tag toBor) (.int i) = (D.tagL toBor ys)[i.toNat]?) (hdue : ∀ i : Int, 0 ≤ i → i < xs.length → dIx (due.tag toBor) (.int i) = (D.tagL toBor xs)[i.toNat]?)
    (e : unL ys = unL xs) (hf : ∀ d ∈ xs, pln m d = true) (hlen : Wp (pOpN fLen (pCons (pVar 1) pNil) [.val false got, .val false due, .emp, .emp]) (· = .int xs.length)) (hx : xs.length < 4611686018427387904) :
    Wp (sFor (iRng1 (eP (pOpN fLen (pCons (pVar 1) pNil)))) (tgN 3) (sIf (eB (pNot (pTst (pCall 2 (G__law_same (m + 1)) (pCons (pOp2 dIx (pVar 0) (pVar 3)) (pCons (pOp2 dIx (pVar 1) (pVar 3)) pNil)))))) (sRet (eP (pC (.bl false)))) sNil) [.val false got, .val false due, .emp, .emp]) (Nx (fun ρ => ∃ s, ρ = [.val false got, .val false due, .emp, s]) (fun _ => False)) := by
  have el : ys.length = xs.length := by have := congrArg List.length e; simpa [unL] using this
  refine wp_for (fun k ρ => ∃ s, Free s ∧ ρ = [.val false got, .val false due, .emp, s]) ?_
  rw [w_iRng1, w_eP]
  refine hlen.mono ?_
  rintro _ rfl
  simp
  refine ⟨by omega, ?_, ?_⟩
  · rintro k d ρ hk rfl s hs rfl
    simp [hs, w_pCall]
    obtain ⟨y, hy⟩ : ∃ y, ys[k]? = some y := ⟨_, List.getElem?_eq_getElem (by omega)⟩
    obtain ⟨x, hx⟩ : ∃ x, xs[k]? = some x := ⟨_, List.getElem?_eq_getElem hk⟩
    have e1 := hgot k (by omega) (by omega)
    have e2 := hdue k (by omega) (by omega)
    rw [Int.toNat_natCast, tagL_get, hy] at e1
    rw [Int.toNat_natCast, tagL_get, hx] at e2
    rw [e1, e2]
    have exy : un y = un x := by
      have := congrArg (·[k]?) e
      simpa [unL_map, hx, hy] using this
    simp
    refine (IH _ _ (by simpa using exy) (by simpa [pln_tag] using hf x (List.mem_of_getElem? hx))).mono ?_
    rintro r rfl
    simp
  · rintro ρ s hs rfl
    simp
theorem same_ok : ∀ (m : Nat) (got due : D), un got = un due → pln m due = true → Wp (G__law_same (m + 1) [got, due]) RTrue
  | m, got, .non, e, h => by
    have := un_eq_non (d := got) (by simpa using e)
    subst this
    refine wp_body' rfl ?_
    simp [b__law_same, sl0, List.replicate, RTrue]
  | m, got, .bl b, e, h => by
    have := un_eq_bl (d := got) (by simpa using e)
    subst this
    refine wp_body' rfl ?_
    cases b <;> simp [b__law_same, sl0, List.replicate, RTrue]
  | m, got, .int i, e, h => by
    have := un_eq_int (d := got) (by simpa using e)
    subst this
    refine wp_body' rfl ?_
    simp [b__law_same, sl0, List.replicate, RTrue]
  | m, got, .str i, e, h => by
    have := un_eq_str (d := got) (by simpa using e)
    subst this
    refine wp_body' rfl ?_
    simp [b__law_same, sl0, List.replicate, RTrue]
  | m, got, .hole, e, h => by cases m <;> simp [pln] at h
  | 0, got, .lst f xs, e, h => by simp [pln] at h
  | 0, got, .tup xs, e, h => by simp [pln] at h
  | m + 1, got, .lst f xs, e, h => by
    obtain ⟨g, ys, rfl, e2⟩ := un_eq_lst (d := got) (by simpa using e)
    have el : ys.length = xs.length := by have := congrArg List.length e2; simpa [unL] using this
    rw [pln_lst, Bool.and_eq_true_iff, decide_eq_true_eq, List.all_eq_true] at h
    refine wp_body' rfl ?_
    simp [b__law_same, sl0, List.replicate, el, -w_iRng1]
    refine (same_loop (got := .lst g ys) (due := .lst f xs) (xs := xs) (ys := ys) (same_ok m) (fun i h0 h1 => ?_) (fun i h0 h1 => ?_) e2 h.2 ?_ (by omega)).mono ?_
    · rw [tag_lst, dIx_lst h0 (by simpa using h1)]
    · rw [tag_lst, dIx_lst h0 (by simpa using h1)]
    · simp
    · rintro f hf
      cases f <;> simp at hf
      obtain ⟨s, rfl⟩ := hf
      simp [RTrue]
  | m + 1, got, .tup xs, e, h => by
    obtain ⟨ys, rfl, e2⟩ := un_eq_tup (d := got) (by simpa using e)
    have el : ys.length = xs.length := by have := congrArg List.length e2; simpa [unL] using this
    rw [pln_tup, Bool.and_eq_true_iff, decide_eq_true_eq, List.all_eq_true] at h
    refine wp_body' rfl ?_
    simp [b__law_same, sl0, List.replicate, el, -w_iRng1]
    refine (same_loop (got := .tup ys) (due := .tup xs) (xs := xs) (ys := ys) (same_ok m) (fun i h0 h1 => ?_) (fun i h0 h1 => ?_) e2 h.2 ?_ (by omega)).mono ?_
    · rw [tag_tup, dIx_litT, atI_ok h0 (by simpa using h1)]
    · rw [tag_tup, dIx_litT, atI_ok h0 (by simpa using h1)]
    · simp
    · rintro f hf
      cases f <;> simp at hf
      obtain ⟨s, rfl⟩ := hf
      simp [RTrue]
  | 0, got, .dik _ _ _, e, h => by simp [pln] at h
  | 0, got, .dit _ _ _, e, h => by simp [pln] at h
  | 0, got, .obj _ _ _ _, e, h => by simp [pln] at h
  | _ + 1, got, .dik _ _ _, e, h => by simp [pln] at h
  | _ + 1, got, .dit _ _ _, e, h => by simp [pln] at h
  | _ + 1, got, .obj _ _ _ _, e, h => by simp [pln] at h

/-! ### the law's own tools, natively -/
theorem mixed_ok {a b many : Int} (hm : 0 < many) : Wp (m__law_mixed a b many) (fun t => 0 ≤ t ∧ t < many) := by
  unfold m__law_mixed
  have h1 := Int.emod_nonneg (a * 48271 + b * 69621 + 40692) (show (2147483647 : Int) ≠ 0 by decide)
  have h2 := Int.emod_lt_of_pos (a * 48271 + b * 69621 + 40692) (show (0 : Int) < 2147483647 by decide)
  generalize (a * 48271 + b * 69621 + 40692) % 2147483647 = one at h1 h2
  rw [bind_okk, mulR_ok (.inl ⟨by omega, by omega⟩), bind_okk]
  have h3 := Int.emod_nonneg (one * one + b * 16807 + 7) (show (2147483629 : Int) ≠ 0 by decide)
  have h4 := Int.emod_lt_of_pos (one * one + b * 16807 + 7) (show (0 : Int) < 2147483629 by decide)
  generalize (one * one + b * 16807 + 7) % 2147483629 = two at h3 h4
  rw [bind_okk, mulR_ok (.inl ⟨by omega, by omega⟩), bind_okk, bind_okk, modR_ok hm, bind_okk, wp_ok]
  exact ⟨Int.emod_nonneg _ (by omega), Int.emod_lt_of_pos _ hm⟩
theorem draw_ok {pool : Int × Int × Int} {many : Int} (hm : 0 < many) (h2 : many < 1073741824) : Wp (m__law_draw pool many) (fun z => 0 ≤ z.1 ∧ z.1 < many) := by
  unfold m__law_draw
  split
  · rw [modR_ok hm, bind_okk, divR_ok hm h2, bind_okk, wp_ok]
    exact ⟨Int.emod_nonneg _ (by omega), Int.emod_lt_of_pos _ hm⟩
  · rw [wp_bind]
    exact (mixed_ok hm).mono fun t h => by rw [wp_ok]; exact h
theorem pool_ok {ns : List Int} {k : Int} (h0 : 0 ≤ k) : Wp (m__law_pool ns k) (fun _ => True) := by
  unfold m__law_pool
  have hc : Wp (m__law_cell ns k) (fun _ => True) := by
    unfold m__law_cell
    by_cases h : k < ns.length
    · obtain ⟨j, rfl⟩ : ∃ j : Nat, k = j := ⟨k.toNat, by omega⟩
      have hj : j < ns.length := by omega
      rw [if_pos (by simpa using h), idx_get (List.getElem?_eq_getElem hj), bind_okk, wp_ok]
      trivial
    · rw [if_neg (by simpa using h), wp_ok]
      trivial
  rw [wp_bind]
  refine hc.mono fun c _ => ?_
  split <;> (rw [wp_ok]; trivial)
theorem same_un {a b : D} (h : un a = un b) (hp : pln 7 b = true) : m__law_same a b = .ok true := by
  have := (same_ok 7 a b h hp).eq
  unfold m__law_same
  rw [show G__law_same 8 [a, b] = .ok (.bl true, []) from this]
theorem same_self {a : D} (hp : pln 7 a = true) : m__law_same a a = .ok true := same_un rfl hp
@[simp] theorem pln_jI {n : Nat} {x : Int} : pln n (jI x) = true := pln_int
@[simp] theorem pln_jB {n : Nat} {x : Bool} : pln n (jB x) = true := pln_bl
@[simp] theorem pln_jS {n : Nat} {x : PySem.Str} : pln n (jS x) = true := pln_str
@[simp] theorem pln_jU {n : Nat} {x : Unit} : pln n (jU x) = true := pln_non
theorem pln_jO {α : Type} {n : Nat} {e : α → D} {x : Option α} (h : ∀ y, pln n (e y) = true) : pln n (jO e x) = true := by
  cases x with
  | none => exact pln_non
  | some y => exact h y
@[simp] theorem pln_jOI {n : Nat} {x : Option Int} : pln n (jO jI x) = true := pln_jO fun _ => pln_jI
theorem pln_jL {α : Type} {n : Nat} {f : Fl} {e : α → D} {xs : List α} (hl : xs.length ≤ 1048576) (h : ∀ x ∈ xs, pln n (e x) = true) : pln (n + 1) (jL f e xs) = true := by
  show pln (n + 1) (.lst f (xs.map e)) = true
  rw [pln_lst, Bool.and_eq_true]
  exact ⟨by simpa using hl, by simpa using h⟩
theorem pln_jR {α : Type} {n : Nat} {f : Fl} {es : α → List D} {x : α} (hl : (es x).length ≤ 1048576) (h : (es x).all (pln n) = true) : pln (n + 1) (jR f es x) = true := by
  show pln (n + 1) (.lst f (es x)) = true
  rw [pln_lst, Bool.and_eq_true]
  exact ⟨by simpa using hl, h⟩
theorem pln_jT {α : Type} {n : Nat} {es : α → List D} {x : α} (hl : (es x).length ≤ 1048576) (h : (es x).all (pln n) = true) : pln (n + 1) (jT es x) = true := by
  show pln (n + 1) (.tup (es x)) = true
  rw [pln_tup, Bool.and_eq_true]
  exact ⟨by simpa using hl, h⟩

abbrev Pool := Int × Int × Int
theorem draws_ok {α : Type} {g : Int → Pool → R (α × Pool)} {n : Nat} {Q : α → Prop} {P : List α × Pool → Prop} {pool : Pool} (hn : n < 1000) (hg : ∀ k s, k < n → Wp (g (k : Nat) s) fun z => Q z.1) (h : ∀ acc s, acc.length = n → (∀ x ∈ acc, Q x) → P (acc, s)) : Wp (lcS (fun _ s => .ok (true, s)) g (lst n fun k => (k : Int)) [] pool) P := by
  refine wp_lcS (fun _ acc _ => ∀ x ∈ acc, Q x) _ (by simp; omega) (fun x hx => by cases hx) (fun k x acc s hx hI ha => ?_) (fun acc s hI ha => h acc s (by simpa using ha) hI)
  have hk : k < n := by have := (List.getElem?_eq_some_iff.mp hx).1; simpa using this
  rw [lst_get hk] at hx
  cases hx
  refine (hg k s hk).mono fun z hz y hy => ?_
  rcases List.mem_append.mp hy with hy | hy
  · exact hI y hy
  · rw [List.mem_singleton] at hy; rw [hy]; exact hz
theorem idx_some {α : Type} {xs : List α} {t : Int} (h0 : 0 ≤ t) (h1 : t < xs.length) : ∃ x, idx xs t = .ok x ∧ x ∈ xs := by
  obtain ⟨k, rfl⟩ : ∃ k : Nat, t = k := ⟨t.toNat, by omega⟩
  have hk : k < xs.length := by omega
  exact ⟨xs[k], idx_get (List.getElem?_eq_getElem hk), List.getElem_mem _⟩
theorem idx_lastM {α : Type} [Inhabited α] {xs : List α} (h : xs ≠ []) : ∃ x, idx xs (-1) = .ok x ∧ x ∈ xs := by
  have hl : 0 < xs.length := List.length_pos_iff.mpr h
  refine ⟨xs.getD (xs.length - 1) default, ?_, ?_⟩
  · conv => lhs; rw [lst_of xs]
    exact idx_last hl
  · have : xs.getD (xs.length - 1) default = xs[xs.length - 1] := by rw [List.getD, List.getElem?_eq_getElem (by omega)]; rfl
    rw [this]
    exact List.getElem_mem _
theorem wp_if {α : Type} {b : Bool} {x y : R α} {P : α → Prop} (h1 : b = true → Wp x P) (h2 : b = false → Wp y P) : Wp (if b = true then x else y) P := by
  cases b with
  | true => rw [if_pos rfl]; exact h1 rfl
  | false => rw [if_neg (by decide)]; exact h2 rfl

/-! ### papers -/
/-- the paper of starts shows that some zone has at least v -/
def Sts (n : Nat) (g : Nat → Int) (c : Nat) (v : Int) (m : Nat) (f : Nat → Int) : Prop := m = c + 1 ∧ (∀ k, k < m → 0 ≤ f k ∧ f k < n) ∧ f 0 = 0 ∧ ∀ j, j < c → f j ≤ f (j + 1) ∧ v ≤ psum g ((f (j + 1)).toNat + 1) - psum g (f j).toNat
def Bay (n : Nat) (g : Nat → Int) (v : Int) (b : Int) : Prop := 0 ≤ b ∧ b < n ∧ v ≤ g b.toNat
def Lds (n : Nat) (g : Nat → Int) : Prop := 1 ≤ n ∧ n ≤ 12 ∧ ∀ k, k < n → 0 ≤ g k ∧ g k ≤ 99
theorem all_rng {xs : List Int} {lo hi : Int} (h : xs.length < 1000) : m_all_in_range xs lo hi = .ok (xs.all fun x => decide (lo ≤ x) && decide (x ≤ hi)) := by
  unfold m_all_in_range
  rw [mapP_ok (by omega), bind_okk, List.all_map]
  rfl
theorem check_ok {n : Nat} {g : Nat → Int} {c : Nat} (h : Lds n g) (h1 : 1 ≤ c) (h2 : c ≤ 4) : m_check_loads (lst n g) (c : Int) = .ok () := by
  obtain ⟨a1, a2, a3⟩ := h
  unfold m_check_loads m_in_range
  have e1 : (decide ((1 : Int) ≤ ((lst n g).length : Int)) && decide (((lst n g).length : Int) ≤ 12)) = true := by rw [lst_len]; simp; omega
  have e2 : ((lst n g).all fun x => decide (0 ≤ x) && decide (x ≤ 99)) = true := by
    simp only [List.all_eq_true, lst_mem]
    rintro x ⟨k, hk, rfl⟩
    have := a3 k hk
    simp; omega
  rw [e1, if_pos rfl, all_rng (by simp; omega), bind_okk, e2, bind_okk]
  rw [bind_okk, decide_eq_true (show (1 : Int) ≤ c by omega), decide_eq_true (show (c : Int) ≤ 4 by omega)]
  rfl
theorem bay_zones {n : Nat} {g : Nat → Int} {c : Nat} {v b : Int} (h : Lds n g) (h1 : 1 ≤ c) (h2 : c ≤ 4) : Wp (m_zones_ok (lst n g) (c : Int) v (Str.ofString "bay", .inl b)) fun r => r = true ↔ Bay n g v b := by
  unfold m_zones_ok
  rw [check_ok h h1 h2, bind_okk, decide_eq_true rfl, if_pos rfl]
  show Wp (((if (decide (0 ≤ b) && decide (b < ((lst n g).length : Int))) = true then _ else R.ok false).bind fun t3 => R.ok t3)) _
  rw [lst_len]
  by_cases hb : 0 ≤ b ∧ b < n
  · rw [if_pos (by simpa using hb), idx_lstI hb.1 hb.2]
    simp [Bay, hb.1, hb.2]
  · rw [if_neg (by simpa using hb), bind_okk, wp_ok]
    simp only [Bool.false_eq_true, false_iff]
    exact fun z => hb ⟨z.1, z.2.1⟩
theorem sum_step {n : Nat} {g : Nat → Int} {a b : Int} (ha : 0 ≤ a) (hab : a ≤ b) (hb : b < n) : (cut (lst n g) (some a) (some (b + 1))).sum = psum g (b.toNat + 1) - psum g a.toNat := by
  obtain ⟨i, rfl⟩ : ∃ i : Nat, a = i := ⟨a.toNat, by omega⟩
  obtain ⟨j, rfl⟩ : ∃ j : Nat, b = j := ⟨b.toNat, by omega⟩
  rw [show ((j : Int) + 1) = ((j + 1 : Nat) : Int) by omega, cut_lst (by omega) (by omega), psum_shift, Int.toNat_natCast, Int.toNat_natCast]
  congr 2
  omega
theorem sts_zones {n : Nat} {g : Nat → Int} {c : Nat} {v : Int} {m : Nat} {f : Nat → Int} (h : Lds n g) (h1 : 1 ≤ c) (h2 : c ≤ 4) (hm : m < 1000) : Wp (m_zones_ok (lst n g) (c : Int) v (Str.ofString "starts", .inr (lst m f))) fun r => r = true ↔ Sts n g c v m f := by
  have hn := h.2.1
  unfold m_zones_ok
  rw [check_ok h h1 h2, bind_okk, decide_eq_false (show ¬ (Str.ofString "starts" = Str.ofString "bay") by decide), if_neg (by decide)]
  show Wp (if ((!decide (Str.ofString "starts" = Str.ofString "starts")) || (!decide (((lst m f).length : Int) = ((c : Int) + 1)))) = true then (.ok false) else _) _
  rw [lst_len, decide_eq_true rfl]
  by_cases hc : m = c + 1
  rotate_left
  · rw [decide_eq_false (by omega), if_pos (by decide), wp_ok]
    simp only [Bool.false_eq_true, false_iff]
    exact fun z => hc z.1
  subst hc
  rw [decide_eq_true (by omega), if_neg (by decide), all_rng (by simpa using hm), bind_okk, lst_len]
  by_cases hr : ∀ k, k < c + 1 → 0 ≤ f k ∧ f k < n
  rotate_left
  · have : ((lst (c + 1) f).all fun x => decide (0 ≤ x) && decide (x ≤ (n : Int) - 1)) = false := by
      rw [List.all_eq_false]
      simp only [Classical.not_forall] at hr
      obtain ⟨k, hk, hr⟩ := hr
      exact ⟨f k, lst_mem.mpr ⟨k, hk, rfl⟩, by simp; omega⟩
    rw [this, Bool.not_false, if_pos rfl, bind_okk, if_pos rfl, wp_ok]
    simp only [Bool.false_eq_true, false_iff]
    exact fun z => hr z.2.1
  have : ((lst (c + 1) f).all fun x => decide (0 ≤ x) && decide (x ≤ (n : Int) - 1)) = true := by
    simp only [List.all_eq_true, lst_mem]
    rintro x ⟨k, hk, rfl⟩
    have := hr k hk
    simp; omega
  rw [this, Bool.not_true, if_neg (by decide), show idx (lst (c + 1) f) 0 = .ok (f 0) from idx_lst (k := 0) (by omega), bind_okk, bind_okk]
  by_cases h0 : f 0 = 0
  rotate_left
  · rw [decide_eq_false h0, Bool.not_false, if_pos rfl, wp_ok]
    simp only [Bool.false_eq_true, false_iff]
    exact fun z => h0 z.2.2.1
  rw [decide_eq_true h0, Bool.not_true, if_neg (by decide), rngR_nat (by omega), bind_okk]
  refine wp_forN (fun k _ => ∀ j, j < k → f j ≤ f (j + 1) ∧ v ≤ psum g ((f (j + 1)).toNat + 1) - psum g (f j).toNat) (fun _ => ∀ j, j < c → f j ≤ f (j + 1) ∧ v ≤ psum g ((f (j + 1)).toNat + 1) - psum g (f j).toNat) (fun j hj => by omega) (fun k s nx bk hk hI hnx _ => ?_) (fun s hs => hs) fun s hs => ?_
  · rw [idx_lst1 (by omega), idx_lst (by omega), bind_okk, bind_okk, bind_okk, bind_okk]
    by_cases hf : f (k + 1) < f k
    · rw [decide_eq_true hf, if_pos rfl, bind_okk, if_pos rfl, wp_ok]
      simp only [Bool.false_eq_true, false_iff]
      intro z
      have := (z.2.2.2 k hk).1
      omega
    · rw [decide_eq_false hf, if_neg (by decide), bind_okk, sum_step (hr k (by omega)).1 (by omega) (hr (k + 1) (by omega)).2]
      by_cases hv : psum g ((f (k + 1)).toNat + 1) - psum g (f k).toNat < v
      · rw [decide_eq_true hv, if_pos rfl, wp_ok]
        simp only [Bool.false_eq_true, false_iff]
        intro z
        have := (z.2.2.2 k hk).2
        omega
      · rw [decide_eq_false hv, if_neg (by decide)]
        refine hnx _ fun j hj => ?_
        by_cases e : j = k
        · subst e; exact ⟨by omega, by omega⟩
        · exact hI j (by omega)
  · rw [wp_ok]
    simp only [true_iff]
    exact ⟨rfl, hr, h0, hs⟩

/-! ### no paper shows more than a parting has -/
/-- a parting into at most c stretches, none greater than v -/
def Prt (n : Nat) (g : Nat → Int) (c : Nat) (v : Int) : Prop := ∃ (m : Nat) (e : Nat → Nat), 1 ≤ m ∧ m ≤ c ∧ e 0 = 0 ∧ e m = n ∧ (∀ j, j ≤ m → e j ≤ n) ∧ ∀ j, j < m → psum g (e (j + 1)) - psum g (e j) ≤ v
theorem prt_main {n : Nat} {g : Nat → Int} {v w : Int} {m : Nat} {e f : Nat → Nat} (hg : ∀ k, k < n → 0 ≤ g k) (e0 : e 0 = 0) (em : e m = n) (en : ∀ j, j ≤ m → e j ≤ n) (ev : ∀ j, j < m → psum g (e (j + 1)) - psum g (e j) ≤ v) (hf : ∀ j, j ≤ m → f j < n) (fw : ∀ j, j < m → w ≤ psum g (f (j + 1) + 1) - psum g (f j)) : w ≤ v := by
  have main : ∀ j, j ≤ m → w ≤ v ∨ e j ≤ f j := by
    intro j
    induction j with
    | zero => intro _; right; omega
    | succ j ih =>
      intro hj
      rcases ih (by omega) with h | h
      · exact .inl h
      · by_cases h2 : f (j + 1) < e (j + 1)
        · left
          have h3 := psum_mono (i := e j) (j := f j) hg (by have := hf j (by omega); omega) h
          have h4 := psum_mono (i := f (j + 1) + 1) (j := e (j + 1)) hg (en _ hj) (by omega)
          have h5 := ev j (by omega)
          have h6 := fw j (by omega)
          omega
        · exact .inr (by omega)
  rcases main m (Nat.le_refl _) with h | h
  · exact h
  · have := hf m (Nat.le_refl _)
    omega
theorem prt_sts {n : Nat} {g : Nat → Int} {c : Nat} {v w : Int} {m : Nat} {f : Nat → Int} (hg : ∀ k, k < n → 0 ≤ g k) (hp : Prt n g c v) (h : Sts n g c w m f) : w ≤ v := by
  obtain ⟨k, e, k1, k2, e0, em, en, ev⟩ := hp
  obtain ⟨h1, h2, h3, h4⟩ := h
  refine prt_main (f := fun j => (f j).toNat) hg e0 em en ev (fun j hj => ?_) fun j hj => ?_
  · have := h2 j (by omega); omega
  · exact (h4 j (by omega)).2
theorem prt_bay {n : Nat} {g : Nat → Int} {c : Nat} {v w b : Int} (hg : ∀ k, k < n → 0 ≤ g k) (hp : Prt n g c v) (h : Bay n g w b) : w ≤ v := by
  obtain ⟨k, e, k1, k2, e0, em, en, ev⟩ := hp
  obtain ⟨h1, h2, h3⟩ := h
  refine prt_main (f := fun j => b.toNat) hg e0 em en ev (fun j hj => ?_) fun j hj => ?_
  · omega
  · have := psum_succ (g := g) (k := b.toNat)
    omega
theorem cut_ge {n : Nat} {g : Nat → Int} {a b : Int} (hg : ∀ k, k < n → 0 ≤ g k) (ha : 0 ≤ a ∧ a ≤ n) (hb : 0 ≤ b ∧ b ≤ n) : psum g b.toNat - psum g a.toNat ≤ (cut (lst n g) (some a) (some b)).sum := by
  obtain ⟨i, rfl⟩ : ∃ i : Nat, a = i := ⟨a.toNat, by omega⟩
  obtain ⟨j, rfl⟩ : ∃ j : Nat, b = j := ⟨b.toNat, by omega⟩
  rw [Int.toNat_natCast, Int.toNat_natCast]
  by_cases h : i ≤ j
  · rw [cut_lst h (by omega), psum_shift, show i + (j - i) = j by omega]
    exact Int.le_refl _
  · rw [cut_gt (by omega) (by omega)]
    have := psum_mono (i := j) (j := i) hg (by omega) (by omega)
    simp
    omega
def Row (n t : Nat) (r : List Int) : Prop := r.length = t ∧ ∀ x ∈ r, 0 ≤ x ∧ x ≤ n
theorem lrI_one {n : Nat} (h : n < 1000) : lrI 1 (n : Int) = .ok (lst (n - 1) fun k => 1 + (k : Int)) := by
  unfold lrI
  rw [if_pos ⟨⟨by omega, by omega, by omega, by omega⟩, by omega⟩, rngI_lst, show ((n : Int) - 1).toNat = n - 1 by omega]
/-- one row's greatest sum -/
theorem row_ok {n : Nat} {g : Nat → Int} {c t : Nat} {r : List Int} {ν : Type} {P : ν → Prop} {K : Int → R ν} (h : Lds n g) (hr : Row n t r) (ht : t + 1 ≤ c) (hc : c ≤ 4) (hK : ∀ v, Prt n g c v → Wp (K v) P) :
    Wp ((catR [0] r).bind fun t4 => (catR t4 [(n : Int)]).bind fun spots => (rngR ((spots.length : Int) - 1)).bind fun ks2 => (lcM (fun _ => .ok true) (fun j => (idx spots j).bind fun t5 => (idx spots (j + 1)).bind fun t6 => .ok ((cut (lst n g) (some t5) (some t6)).sum)) ks2 []).bind fun t7 => (maxR t7).bind fun t8 => K t8) P := by
  obtain ⟨r1, r2⟩ := hr
  have hn := h.2.1
  have er : r = lst t fun k => r.getD k default := by conv => lhs; rw [lst_of r, r1]
  have r3 : ∀ k, k < t → 0 ≤ r.getD k default ∧ r.getD k default ≤ n := by
    intro k hk
    have : r.getD k default = r[k]'(by omega) := by simp [List.getD, r1, hk]
    rw [this]
    exact r2 _ (List.getElem_mem _)
  generalize (fun k => r.getD k default) = q at er
  have r5 : ∀ k, k < t → 0 ≤ q k ∧ q k ≤ n := by
    intro k hk
    exact r2 _ (by rw [er]; exact lst_mem.mpr ⟨k, hk, rfl⟩)
  subst er
  obtain ⟨sp, e, s0, sn, sr⟩ : ∃ sp : Nat → Int, [(0 : Int)] ++ lst t q ++ [(n : Int)] = lst (t + 2) sp ∧ sp 0 = 0 ∧ sp (t + 1) = n ∧ ∀ k, k < t + 2 → 0 ≤ sp k ∧ sp k ≤ n := by
    refine ⟨fun i => if i = t + 1 then (n : Int) else if i < 1 then 0 else q (i - 1), ?_, ?_, ?_, fun k hk => ?_⟩
    · rw [show [(0 : Int)] = lst 1 fun _ => 0 from rfl, lst_app, show 1 + t = t + 1 by omega, lst_snoc]
    · dsimp only; rw [if_neg (show ¬ (0 = t + 1) by omega), if_pos (by omega)]
    · dsimp only; rw [if_pos rfl]
    · dsimp only
      split
      · omega
      split
      · omega
      · exact r5 (k - 1) (by omega)
  rw [catR_ok (by simp; omega), bind_okk, catR_ok (by simp; omega), bind_okk, e, lst_len, show ((t + 2 : Nat) : Int) - 1 = ((t + 1 : Nat) : Int) by omega, rngR_nat (by omega), bind_okk]
  rw [lcM_lst (g' := fun j => (cut (lst n g) (some (sp j)) (some (sp (j + 1)))).sum) (by omega) fun k hk => by rw [idx_lst (by omega), bind_okk, idx_lst1 (by omega), bind_okk], bind_okk]
  have hne : (lst (t + 1) fun j => (cut (lst n g) (some (sp j)) (some (sp (j + 1)))).sum) ≠ [] := by
    intro z
    have := congrArg List.length z
    simp at this
  rw [maxR_ok hne, bind_okk]
  have hm := (imax_mem hne).2
  generalize imax _ = v at hm
  refine hK v ⟨t + 1, fun j => (sp j).toNat, by omega, ht, by dsimp only; omega, by dsimp only; omega, fun j hj => by have := sr j (by omega); dsimp only; omega, fun j hj => ?_⟩
  have h1 := hm _ (lst_mem.mpr ⟨j, hj, rfl⟩)
  have h2 := cut_ge (n := n) (g := g) (fun k hk => (h.2.2 k hk).1) (sr j (by omega)) (sr (j + 1) (by omega))
  dsimp only at h1 ⊢
  omega

/-! ### greedy stretches -/
inductive Cuts (n : Nat) (g : Nat → Int) (v : Int) : Nat → List (Int × Int) → Prop
  | done : Cuts n g v n []
  | step {i p : Nat} {xs : List (Int × Int)} (h1 : i ≤ p) (h2 : p < n) (h3 : psum g (p + 1) - psum g i ≤ v) (h4 : p + 1 = n ∨ v < psum g (p + 2) - psum g i) (t : Cuts n g v (p + 1) xs) : Cuts n g v i ((((i : Nat) : Int), ((p : Nat) : Int)) :: xs)
section
variable {n : Nat} {g : Nat → Int} {v : Int}
theorem cuts_end (hg : ∀ k, k < n → 0 ≤ g k) {i p q : Nat} (h1 : i ≤ p) (h2 : p < n) (h3 : psum g (p + 1) - psum g i ≤ v) (h4 : p + 1 = n ∨ v < psum g (p + 2) - psum g i) (k1 : i ≤ q) (k2 : q < n) (k3 : psum g (q + 1) - psum g i ≤ v) : q ≤ p := by
  rcases h4 with h4 | h4
  · omega
  · by_cases h : q ≤ p
    · exact h
    · have := psum_mono (i := p + 2) (j := q + 1) hg (by omega) (by omega)
      omega
theorem cuts_one (hg : ∀ k, k < n → 0 ≤ g k) : ∀ {i : Nat} {xs ys : List (Int × Int)}, Cuts n g v i xs → Cuts n g v i ys → xs = ys
  | _, _, _, .done, .done => rfl
  | _, _, _, .done, .step (p := p) h1 h2 h3 h4 t => by omega
  | _, _, _, .step (p := p) h1 h2 h3 h4 t, .done => by omega
  | _, _, _, .step (p := p) h1 h2 h3 h4 t, .step (p := q) k1 k2 k3 k4 u => by
    have e1 := cuts_end hg h1 h2 h3 h4 k1 k2 k3
    have e2 := cuts_end hg k1 k2 k3 k4 h1 h2 h3
    have e : q = p := by omega
    subst e
    rw [cuts_one hg t u]
/-- the greatest end -/
theorem end_ex (hv : ∀ k, k < n → g k ≤ v) {i : Nat} (hi : i < n) : ∃ p, i ≤ p ∧ p < n ∧ psum g (p + 1) - psum g i ≤ v ∧ (p + 1 = n ∨ v < psum g (p + 2) - psum g i) := by
  have main : ∀ d p, n - 1 - p = d → i ≤ p → p < n → psum g (p + 1) - psum g i ≤ v → ∃ p, i ≤ p ∧ p < n ∧ psum g (p + 1) - psum g i ≤ v ∧ (p + 1 = n ∨ v < psum g (p + 2) - psum g i) := by
    intro d
    induction d with
    | zero => intro p h1 h2 h3 h4; exact ⟨p, h2, h3, h4, .inl (by omega)⟩
    | succ d ih =>
      intro p h1 h2 h3 h4
      by_cases h : v < psum g (p + 2) - psum g i
      · exact ⟨p, h2, h3, h4, .inr h⟩
      · exact ih (p + 1) (by omega) (by omega) (by omega) (by show psum g (p + 2) - psum g i ≤ v; omega)
  refine main _ i rfl (Nat.le_refl _) hi ?_
  have := hv i hi
  rw [psum_succ]
  omega
theorem cuts_ex (hv : ∀ k, k < n → g k ≤ v) : ∀ d i, n - i = d → i ≤ n → ∃ xs, Cuts n g v i xs := by
  intro d
  induction d using Nat.strongRecOn with
  | ind d ih =>
    intro i hd hi
    by_cases e : i = n
    · subst e; exact ⟨[], .done⟩
    · obtain ⟨p, h1, h2, h3, h4⟩ := end_ex hv (show i < n by omega)
      obtain ⟨xs, hx⟩ := ih (n - (p + 1)) (by omega) (p + 1) rfl (by omega)
      exact ⟨_, .step h1 h2 h3 h4 hx⟩
theorem cuts_le {m : Nat} {e : Nat → Nat} (hg : ∀ k, k < n → 0 ≤ g k) (em : e m = n) (en : ∀ j, j ≤ m → e j ≤ n) (ev : ∀ j, j < m → psum g (e (j + 1)) - psum g (e j) ≤ v) : ∀ {i : Nat} {xs : List (Int × Int)}, Cuts n g v i xs → ∀ j, j ≤ m → e j ≤ i → xs.length ≤ m - j
  | _, _, .done, j, _, _ => by simp
  | _, _, .step (i := i) (p := p) (xs := xs) h1 h2 h3 h4 t, j, hj, hi => by
    have hjm : j < m := by
      by_cases e1 : j = m
      · subst e1; omega
      · omega
    have h5 : e (j + 1) ≤ p + 1 := by
      have := en (j + 1) hjm
      rcases h4 with h4 | h4
      · omega
      · by_cases h : e (j + 1) ≤ p + 1
        · exact h
        · have a1 := psum_mono (i := p + 2) (j := e (j + 1)) hg this (by omega)
          have a2 := psum_mono (i := e j) (j := i) hg (by omega) hi
          have a3 := ev j hjm
          omega
    have := cuts_le hg em en ev t (j + 1) hjm h5
    simp only [List.length_cons]
    omega
theorem cuts_prt_aux : ∀ {i : Nat} {xs : List (Int × Int)}, Cuts n g v i xs → ∃ e : Nat → Nat, e 0 = i ∧ e xs.length = n ∧ (∀ j, j ≤ xs.length → e j ≤ n) ∧ ∀ j, j < xs.length → e j < e (j + 1) ∧ psum g (e (j + 1)) - psum g (e j) ≤ v
  | _, _, .done => ⟨fun _ => n, rfl, rfl, fun _ _ => Nat.le_refl _, fun j hj => by simp at hj⟩
  | _, _, .step (i := i) (p := p) (xs := xs) h1 h2 h3 h4 t => by
    obtain ⟨e, e0, em, en, ev⟩ := cuts_prt_aux t
    refine ⟨fun j => if j = 0 then i else e (j - 1), rfl, ?_, fun j hj => ?_, fun j hj => ?_⟩
    · show (if xs.length + 1 = 0 then i else e (xs.length + 1 - 1)) = n
      rw [if_neg (by omega), Nat.add_sub_cancel, em]
    · dsimp only
      split
      · omega
      · exact en _ (by simp at hj; omega)
    · simp only [List.length_cons] at hj
      dsimp only
      by_cases h : j = 0
      · subst h
        rw [if_pos rfl, if_neg (by omega), show 0 + 1 - 1 = 0 by omega, e0]
        exact ⟨by omega, h3⟩
      · rw [if_neg h, if_neg (by omega), show j + 1 - 1 = j - 1 + 1 by omega]
        exact ev (j - 1) (by omega)
theorem prt_iff {c : Nat} {xs : List (Int × Int)} (hg : ∀ k, k < n → 0 ≤ g k) (hn : 1 ≤ n) (h : Cuts n g v 0 xs) : Prt n g c v ↔ xs.length ≤ c := by
  constructor
  · rintro ⟨m, e, m1, m2, e0, em, en, ev⟩
    have := cuts_le hg em en ev h 0 (by omega) (by omega)
    omega
  · intro hc
    obtain ⟨e, e0, em, en, ev⟩ := cuts_prt_aux h
    have : 1 ≤ xs.length := by
      cases h with
      | done => omega
      | step h1 h2 h3 h4 t => simp
    exact ⟨xs.length, e, this, hc, e0, em, en, fun j hj => (ev j hj).2⟩
end
theorem enumI_lst {n : Nat} {g : Nat → Int} : enumI 0 (lst n g) = lst n fun k => ((k : Int), g k) := by
  have main : ∀ (m : Nat) (a : Nat), enumI a ((List.range' a m).map g) = (List.range' a m).map fun k : Nat => (((k : Nat) : Int), g k) := by
    intro m
    induction m with
    | zero => intro a; rfl
    | succ m ih =>
      intro a
      rw [List.range'_succ, List.map_cons, List.map_cons]
      show ((a : Int), g a) :: enumI (a + 1) _ = _
      rw [ih (a + 1)]
  have := main n 0
  rw [← List.range_eq_range'] at this
  exact this
theorem stretches_ok {n : Nat} {g : Nat → Int} {v : Int} (h : Lds n g) (hv : ∀ k, k < n → g k ≤ v) : Wp (m_stretches (lst n g) v) fun xs => Cuts n g v 0 xs := by
  obtain ⟨hn1, hn, hl⟩ := h
  have hg : ∀ k, k < n → 0 ≤ g k := fun k hk => (hl k hk).1
  unfold m_stretches
  rw [enumI_lst]
  let A : Nat → List (Int × Int) × Int × Int → Prop := fun k s => ∃ f : Nat, s.2.1 = f ∧ f ≤ k ∧ f < n ∧ (0 < k → f < k) ∧ s.2.2 = psum g k - psum g f ∧ s.2.2 ≤ v ∧ s.1.length ≤ k ∧ ∀ xs, Cuts n g v f xs → Cuts n g v 0 (s.1 ++ xs)
  refine wp_forN A (A n) ⟨0, rfl, by omega, by omega, fun z => by omega, by simp, ?_, by simp, fun xs hx => hx⟩ (fun k s nx bk hk hI hnx _ => ?_) (fun s hs => hs) fun s hs => ?_
  · have := hv 0 (by omega)
    have := hg 0 (by omega)
    show (0 : Int) ≤ v
    omega
  · obtain ⟨rows, first, total⟩ := s
    obtain ⟨f, i1, i2, i3, i4, i5, i6, i7, i8⟩ := hI
    dsimp only at i1 i5 i6 i7 i8 ⊢
    subst i1
    have es := psum_succ (g := g) (k := k)
    have hvk := hv k hk
    refine wp_J (fun s => A (k + 1) (s.1, s.2.1, s.2.2 + g k)) (fun s hs => ?_) fun j hj => ?_
    · obtain ⟨rows2, first2, total2⟩ := s
      dsimp only
      rw [bind_okk]
      exact hnx _ hs
    · refine wp_if (fun hc => ?_) (fun hc => ?_)
      · have hc := of_decide_eq_true hc
        have hk0 : 0 < k := by
          by_cases z : k = 0
          · subst z
            have : f = 0 := by omega
            subst this
            simp at i5
            omega
          · omega
        rw [appR_ok (by omega), bind_okk]
        refine hj _ ⟨k, rfl, by omega, by omega, fun _ => by omega, ?_, ?_, by simp; omega, fun xs hx => ?_⟩
        · dsimp only; omega
        · dsimp only; omega
        · have := i8 ((((f : Nat) : Int), ((k - 1 : Nat) : Int)) :: xs) (.step (by have := i4 hk0; omega) (by omega) (by rw [show k - 1 + 1 = k by omega]; omega) (.inr (by rw [show k - 1 + 2 = k + 1 by omega]; omega)) (by rw [show k - 1 + 1 = k by omega]; exact hx))
          rw [show ((k - 1 : Nat) : Int) = (k : Int) - 1 by omega] at this
          simpa using this
      · have hc := of_decide_eq_false hc
        exact hj _ ⟨f, rfl, by omega, i3, fun _ => by omega, by dsimp only; omega, by dsimp only; omega, by dsimp only; omega, i8⟩
  · obtain ⟨rows, first, total⟩ := s
    obtain ⟨f, i1, i2, i3, i4, i5, i6, i7, i8⟩ := hs
    dsimp only at i1 i5 i6 i7 i8 ⊢
    subst i1
    rw [appR_ok (by omega), bind_okk, wp_ok, lst_len]
    have := i8 [(((f : Nat) : Int), ((n - 1 : Nat) : Int))] (.step (by omega) (by omega) (by rw [show n - 1 + 1 = n by omega]; omega) (.inl (by omega)) (by rw [show n - 1 + 1 = n by omega]; exact .done))
    rw [show ((n - 1 : Nat) : Int) = (n : Int) - 1 by omega] at this
    exact this

/-! ### the least greatest sum, by halving -/
def Lst (n : Nat) (g : Nat → Int) (c : Nat) (T : Int) : Prop := Prt n g c T ∧ ∀ v, Prt n g c v → T ≤ v
section
variable {n : Nat} {g : Nat → Int} {v T : Int} {c : Nat}
theorem prt_mono {w : Int} (h : Prt n g c v) (hw : v ≤ w) : Prt n g c w := by
  obtain ⟨m, e, h1, h2, h3, h4, h5, h6⟩ := h
  exact ⟨m, e, h1, h2, h3, h4, h5, fun j hj => by have := h6 j hj; omega⟩
theorem prt_max (hg : ∀ k, k < n → 0 ≤ g k) (h : Prt n g c v) : ∀ k, k < n → g k ≤ v := fun k hk => prt_bay (b := (k : Int)) hg h ⟨by omega, by omega, by rw [Int.toNat_natCast]; exact Int.le_refl _⟩
theorem lst_one {T2 : Int} (h : Lst n g c T) (h2 : Lst n g c T2) : T = T2 := by
  have := h.2 _ h2.1
  have := h2.2 _ h.1
  omega
theorem psum_le (h : ∀ k, k < n → g k ≤ 99) : ∀ k, k ≤ n → psum g k ≤ 99 * k
  | 0, _ => by simp
  | k + 1, hk => by
    have := psum_le h k (by omega)
    have := h k (by omega)
    rw [psum_succ]
    omega
theorem halved_ok (h : Lds n g) (h1 : 1 ≤ c) : Wp (m_least_most (lst n g) (c : Int)) (Lst n g c) := by
  obtain ⟨hn1, hn, hl⟩ := h
  have hg : ∀ k, k < n → 0 ≤ g k := fun k hk => (hl k hk).1
  have hne : lst n g ≠ [] := by intro z; have := congrArg List.length z; simp at this; omega
  obtain ⟨m1, m2⟩ := imax_mem hne
  have m2 : ∀ k, k < n → g k ≤ imax (lst n g) := fun k hk => m2 _ (lst_mem.mpr ⟨k, hk, rfl⟩)
  obtain ⟨k0, hk0, ek0⟩ := lst_mem.mp m1
  unfold m_least_most
  rw [maxR_ok hne, bind_okk, bind_okk]
  generalize imax (lst n g) = low at m2 ek0
  have hs : (lst n g).sum = psum g n := rfl
  rw [hs]
  have b1 := psum_le (g := g) (n := n) (fun k hk => (hl k hk).2) n (Nat.le_refl _)
  have b2 : low ≤ psum g n := by
    have a1 := psum_mono (i := 0) (j := k0) hg (by omega) (by omega)
    have a2 := psum_mono (i := k0 + 1) (j := n) hg (by omega) (by omega)
    rw [psum_succ] at a2
    rw [psum_zero] at a1
    omega
  have b0 : 0 ≤ low := by have := hg k0 hk0; omega
  refine wp_whileC (fun m s => s.2 - s.1 < (m : Int) ∧ s.1 ≤ s.2 ∧ Prt n g c s.2 ∧ (∀ v, Prt n g c v → s.1 ≤ v) ∧ ∀ k, k < n → g k ≤ s.1) (fun m s nx hI hnx => ?_) (fun s hI => by have := hI.1; have := hI.2.1; omega) wfuel (low, psum g n) ⟨by show _ < ((4096 : Nat) : Int); dsimp only; omega, b2, ?_, fun v hv => ?_, m2⟩
  · obtain ⟨lo, hi⟩ := s
    obtain ⟨i1, i2, i3, i4, i5⟩ := hI
    dsimp only at i1 i2 i3 i4 i5 ⊢
    refine wp_if (fun hc => ?_) (fun hc => ?_)
    · have hc := of_decide_eq_true hc
      rw [bind_okk]
      have hm : lo ≤ (lo + hi) / 2 ∧ (lo + hi) / 2 < hi := by omega
      generalize (lo + hi) / 2 = mid at hm
      refine (stretches_ok ⟨hn1, hn, hl⟩ fun k hk => Int.le_trans (i5 k hk) hm.1).bind' fun xs hx => ?_
      have hp := prt_iff (c := c) hg hn1 hx
      refine wp_if (fun hd => ?_) (fun hd => ?_)
      · have hd := of_decide_eq_true hd
        exact hnx _ ⟨by dsimp only; omega, hm.1, hp.mpr (by omega), i4, i5⟩
      · have hd := of_decide_eq_false hd
        rw [bind_okk]
        refine hnx _ ⟨by dsimp only; omega, by dsimp only; omega, i3, fun v hv => ?_, fun k hk => by have := i5 k hk; dsimp only; omega⟩
        by_cases h2 : mid + 1 ≤ v
        · exact h2
        · have := hp.mp (prt_mono hv (by omega))
          omega
    · have hc := of_decide_eq_false hc
      rw [wp_ok]
      have : lo = hi := by omega
      subst this
      exact ⟨i3, i4⟩
  · refine ⟨1, fun j => if j = 0 then 0 else n, by omega, h1, rfl, rfl, fun j hj => by dsimp only; split <;> omega, fun j hj => ?_⟩
    have : j = 0 := by omega
    subst this
    show psum g n - psum g 0 ≤ psum g n
    rw [psum_zero]
    omega
  · have := prt_max hg hv k0 hk0
    dsimp only
    omega
/-! ### the starts -/
def Fst (n : Nat) (g : Nat → Int) (v : Int) (i q : Nat) : Prop := i ≤ q ∧ q < n ∧ v ≤ psum g (q + 1) - psum g i ∧ (q = i ∨ psum g q - psum g i < v)
theorem fst_min (hg : ∀ k, k < n → 0 ≤ g k) {i q p : Nat} (h : Fst n g v i q) (h1 : i ≤ p) (h2 : v ≤ psum g (p + 1) - psum g i) : q ≤ p := by
  obtain ⟨a1, a2, a3, a4⟩ := h
  by_cases h : q ≤ p
  · exact h
  · rcases a4 with a4 | a4
    · omega
    · have := psum_mono (i := p + 1) (j := q) hg (by omega) (by omega)
      omega
theorem fst_ex {i : Nat} (hi : i < n) (h : v ≤ psum g n - psum g i) : ∃ q, Fst n g v i q := by
  have main : ∀ d p, n - 1 - p = d → i ≤ p → p < n → (p = i ∨ psum g p - psum g i < v) → ∃ q, Fst n g v i q := by
    intro d
    induction d with
    | zero => intro p h1 h2 h3 h4; exact ⟨p, h2, h3, by rw [show p + 1 = n by omega]; exact h, h4⟩
    | succ d ih =>
      intro p h1 h2 h3 h4
      by_cases h5 : v ≤ psum g (p + 1) - psum g i
      · exact ⟨p, h2, h3, h5, h4⟩
      · exact ih (p + 1) (by omega) (by omega) (by omega) (.inr (by omega))
  exact main _ i rfl (Nat.le_refl _) hi (.inl rfl)
theorem place_ok {i q : Nat} (hn : n < 1000) (h : Fst n g v i q) (hg : ∀ k, k < n → 0 ≤ g k) : m_place_of_sum (lst n g) (i : Int) v = .ok (q : Int) := by
  obtain ⟨a1, a2, a3, a4⟩ := h
  refine Wp.ok_eq ?_
  unfold m_place_of_sum
  rw [idx_lst (by omega), bind_okk]
  refine wp_whileC (fun (m : Nat) (s : Int × Int) => ∃ p : Nat, s.1 = ((p : Nat) : Int) ∧ i ≤ p ∧ p ≤ q ∧ s.2 = psum g (p + 1) - psum g i ∧ q - p < m) (fun m s nx hI hnx => ?_) (fun s hI => by obtain ⟨p, _, _, _, _, h⟩ := hI; omega) wfuel ((i : Int), g i) ⟨i, rfl, by omega, a1, by dsimp only; rw [psum_succ]; omega, by show _ < 4096; omega⟩
  obtain ⟨place, total⟩ := s
  obtain ⟨p, i1, i2, i3, i4, i5⟩ := hI
  dsimp only at i1 i4 ⊢
  subst i1
  refine wp_if (fun hc => ?_) (fun hc => ?_)
  · have hc := of_decide_eq_true hc
    have hpq : p < q := by
      by_cases e : p = q
      · subst e; omega
      · omega
    rw [bind_okk, idx_lst1 (by omega), bind_okk, bind_okk]
    exact hnx _ ⟨p + 1, by dsimp only; omega, by omega, by omega, by dsimp only; rw [psum_succ (k := p + 1)]; omega, by omega⟩
  · have hc := of_decide_eq_false hc
    rw [wp_ok]
    have := fst_min hg ⟨a1, a2, a3, a4⟩ i2 (p := p) (by omega)
    have : p = q := by omega
    rw [this]
end

/-! ### the law's least greatest sum is the least -/
def IncL (n : Nat) (r : List Int) : Prop := (∀ x ∈ r, 1 ≤ x ∧ x < (n : Int)) ∧ r.Pairwise (· < ·)
def spt (n : Nat) (r : List Int) (j : Nat) : Int := ([0] ++ r ++ [(n : Int)]).getD j 0
def Low (n : Nat) (g : Nat → Int) (r : List Int) (b : Int) : Prop := ∀ v, (∀ j, j < r.length + 1 → psum g (spt n r (j + 1)).toNat - psum g (spt n r j).toNat ≤ v) → b ≤ v
section
variable {n : Nat} {g : Nat → Int} {c : Nat}
theorem spt_lst {r : List Int} : [0] ++ r ++ [(n : Int)] = lst (r.length + 2) (spt n r) := by
  have := lst_of ([0] ++ r ++ [(n : Int)])
  have e : ([0] ++ r ++ [(n : Int)]).length = r.length + 2 := by simp
  rw [e] at this
  exact this
theorem spt_rng {r : List Int} (h : IncL n r) : ∀ k, k < r.length + 2 → 0 ≤ spt n r k ∧ spt n r k ≤ n := by
  intro k hk
  have : spt n r k ∈ [0] ++ r ++ [(n : Int)] := by rw [spt_lst]; exact lst_mem.mpr ⟨k, hk, rfl⟩
  rcases List.mem_append.mp this with z | z
  · rcases List.mem_append.mp z with z | z
    · rw [List.mem_singleton] at z; omega
    · have := h.1 _ z; omega
  · rw [List.mem_singleton] at z; omega
theorem spt_inc {r : List Int} (h : IncL n r) : ∀ k, k + 1 < r.length + 2 → spt n r k ≤ spt n r (k + 1) := by
  intro k hk
  have hp : ([0] ++ r ++ [(n : Int)]).Pairwise (· ≤ ·) := by
    rw [List.pairwise_append, List.pairwise_append]
    refine ⟨⟨by simp, h.2.imp (fun z => Int.le_of_lt z), fun a ha b hb => ?_⟩, by simp, fun a ha b hb => ?_⟩
    · rw [List.mem_singleton] at ha; have := h.1 b hb; omega
    · rw [List.mem_singleton] at hb
      rcases List.mem_append.mp ha with z | z
      · rw [List.mem_singleton] at z; omega
      · have := h.1 a z; omega
  have hl : ([0] ++ r ++ [(n : Int)]).length = r.length + 2 := by simp
  have e1 : spt n r k = ([0] ++ r ++ [(n : Int)])[k]'(by omega) := by unfold spt; rw [List.getD, List.getElem?_eq_getElem (by omega)]; rfl
  have e2 : spt n r (k + 1) = ([0] ++ r ++ [(n : Int)])[k + 1]'(by omega) := by unfold spt; rw [List.getD, List.getElem?_eq_getElem (by omega)]; rfl
  rw [e1, e2]
  exact List.pairwise_iff_getElem.mp hp k (k + 1) _ _ (by omega)
theorem row_ok2 {r : List Int} {ν : Type} {P : ν → Prop} {K : Int → R ν} (h : Lds n g) (hr : IncL n r) (ht : r.length + 1 ≤ c) (hc : c ≤ 4) (hK : ∀ v, Prt n g c v → Low n g r v → Wp (K v) P) :
    Wp ((catR [0] r).bind fun t4 => (catR t4 [(n : Int)]).bind fun spots => (rngR ((spots.length : Int) - 1)).bind fun ks2 => (lcM (fun _ => .ok true) (fun j => (idx spots j).bind fun t5 => (idx spots (j + 1)).bind fun t6 => .ok ((cut (lst n g) (some t5) (some t6)).sum)) ks2 []).bind fun t7 => (maxR t7).bind fun t8 => K t8) P := by
  have hn := h.2.1
  have sr := spt_rng hr
  have si := spt_inc hr
  rw [catR_ok (by simp; omega), bind_okk, catR_ok (by simp; omega), bind_okk, spt_lst, lst_len, show ((r.length + 2 : Nat) : Int) - 1 = ((r.length + 1 : Nat) : Int) by omega, rngR_nat (by omega), bind_okk]
  have ec : ∀ j, j < r.length + 1 → (cut (lst n g) (some (spt n r j)) (some (spt n r (j + 1)))).sum = psum g (spt n r (j + 1)).toNat - psum g (spt n r j).toNat := by
    intro j hj
    have a1 := sr j (by omega)
    have a2 := sr (j + 1) (by omega)
    have a3 := si j (by omega)
    obtain ⟨x, ex⟩ : ∃ x : Nat, spt n r j = x := ⟨(spt n r j).toNat, by omega⟩
    obtain ⟨y, ey⟩ : ∃ y : Nat, spt n r (j + 1) = y := ⟨(spt n r (j + 1)).toNat, by omega⟩
    rw [ex, ey, cut_lst (by omega) (by omega), psum_shift, Int.toNat_natCast, Int.toNat_natCast, show x + (y - x) = y by omega]
  rw [lcM_lst (g' := fun j => psum g (spt n r (j + 1)).toNat - psum g (spt n r j).toNat) (by omega) fun k hk => by rw [idx_lst (by omega), bind_okk, idx_lst1 (by omega), bind_okk, ec k hk], bind_okk]
  have hne : (lst (r.length + 1) fun j => psum g (spt n r (j + 1)).toNat - psum g (spt n r j).toNat) ≠ [] := by
    intro z
    have := congrArg List.length z
    simp at this
  rw [maxR_ok hne, bind_okk]
  obtain ⟨hm1, hm2⟩ := imax_mem hne
  generalize imax _ = v at hm1 hm2
  refine hK v ⟨r.length + 1, fun j => (spt n r j).toNat, by omega, ht, rfl, ?_, fun j hj => by have := sr j (by omega); dsimp only; omega, fun j hj => hm2 _ (lst_mem.mpr ⟨j, hj, rfl⟩)⟩ fun w hw => ?_
  · have : spt n r (r.length + 1) = n := by unfold spt; simp [List.getD]
    dsimp only
    omega
  · obtain ⟨j, hj, e⟩ := lst_mem.mp hm1
    rw [← e]
    exact hw j hj
theorem inc_snoc {r : List Int} {x : Int} : IncL n (r ++ [x]) ↔ IncL n r ∧ (1 ≤ x ∧ x < (n : Int)) ∧ ∀ a ∈ r, a < x := by
  unfold IncL
  rw [List.pairwise_append]
  constructor
  · rintro ⟨h1, h2, _, h3⟩
    exact ⟨⟨fun a ha => h1 a (List.mem_append.mpr (.inl ha)), h2⟩, h1 x (by simp), fun a ha => h3 a ha x (by simp)⟩
  · rintro ⟨⟨h1, h2⟩, h3, h4⟩
    refine ⟨fun a ha => ?_, h2, by simp, fun a ha b hb => ?_⟩
    · rcases List.mem_append.mp ha with z | z
      · exact h1 a z
      · rw [List.mem_singleton] at z; subst z; exact h3
    · rw [List.mem_singleton] at hb; subst hb; exact h4 a ha
theorem last_b {r : List Int} {x : Int} (h : IncL n r) : ∃ b, (if decide ((r.length : Int) = 0) = true then R.ok true else (idx r (-1)).bind fun t => R.ok (decide (x > t))) = .ok b ∧ (b = true ↔ ∀ a ∈ r, a < x) := by
  rcases List.eq_nil_or_concat r with rfl | ⟨r0, y, e⟩
  · exact ⟨true, rfl, by simp⟩
  · rw [List.concat_eq_append] at e
    subst e
    have hi := (inc_snoc.mp h)
    have e1 : idx (r0 ++ [y]) (-1) = .ok y := by
      have := idx_last (n := (r0 ++ [y]).length) (p := fun k => (r0 ++ [y]).getD k default) (by simp)
      rw [← lst_of] at this
      rw [this]
      simp [List.getD]
    rw [decide_eq_false (by simp; omega), if_neg (by decide), e1, bind_okk]
    refine ⟨_, rfl, ?_⟩
    simp only [decide_eq_true_eq, List.mem_append, List.mem_singleton]
    constructor
    · rintro h1 a (ha | rfl)
      · have := hi.2.2 a ha; omega
      · exact h1
    · intro h1
      exact h1 y (.inr rfl)
end

theorem least_ok {n : Nat} {g : Nat → Int} {c : Nat} (h : Lds n g) (h1 : 1 ≤ c) (h4 : c ≤ 4) : Wp (m__law_least_most (lst n g) (c : Int)) (Lst n g c) := by
  have hn := h.2.1
  have hn1 := h.1
  have hg : ∀ k, k < n → 0 ≤ g k := fun k hk => (h.2.2 k hk).1
  unfold m__law_least_most
  rw [lst_len, lrI_one (by omega), bind_okk, show ((c : Int) - 1) = ((c - 1 : Nat) : Int) by omega, rngR_nat (by omega), bind_okk]
  let B : Nat → List Int → Prop := fun t bs => bs ≠ [] ∧ (∀ b ∈ bs, Prt n g c b) ∧ ∀ r, IncL n r → r.length ≤ t → ∃ b ∈ bs, Low n g r b
  let F : Nat → List Int → Prop := fun t r => IncL n r ∧ r.length = t
  refine wp_forN (fun t s => B t s.1 ∧ s.1.length ≤ 1 + 2000 * t ∧ s.2.length ≤ 11 ^ t ∧ (∀ r ∈ s.2, F t r) ∧ ∀ r, F t r → r ∈ s.2) (fun s => B (c - 1) s.1) ⟨⟨by simp, ?_, ?_⟩, by simp, by simp, ?_, ?_⟩ (fun t s nx bk ht hI hnx _ => ?_) (fun s hs => hs.1) fun s hs => ?_
  · intro b hb
    simp at hb
    subst hb
    refine ⟨1, fun j => if j = 0 then 0 else n, by omega, h1, rfl, rfl, fun j hj => by dsimp only; split <;> omega, fun j hj => ?_⟩
    have : j = 0 := by omega
    subst this
    show psum g n - psum g 0 ≤ (lst n g).sum
    rw [psum_zero]
    unfold psum
    omega
  · intro r hr hl
    have : r = [] := List.length_eq_zero_iff.mp (by omega)
    subst this
    refine ⟨_, List.mem_singleton.mpr rfl, fun v hv => ?_⟩
    have := hv 0 (by simp)
    have e : psum g (spt n [] (0 + 1)).toNat - psum g (spt n [] 0).toNat = (lst n g).sum := by
      show psum g ((n : Int)).toNat - psum g 0 = _
      rw [Int.toNat_natCast, psum_zero]
      unfold psum
      omega
    omega
  · intro r hr
    simp at hr
    subst hr
    exact ⟨⟨fun x hx => (by cases hx), List.Pairwise.nil⟩, rfl⟩
  · rintro r ⟨_, hr⟩
    simp [List.length_eq_zero_iff.mp hr]
  · obtain ⟨bs, cuts⟩ := s
    obtain ⟨⟨b1, b2, b6⟩, b3, b4, b5, b7⟩ := hI
    dsimp only at b1 b2 b3 b4 b5 b6 b7 ⊢
    have e11 : 11 ^ t ≤ 121 ∧ 11 ^ (t + 1) = 11 ^ t * 11 := by
      have : t = 0 ∨ t = 1 ∨ t = 2 := by omega
      rcases this with e | e | e <;> subst e <;> decide
    generalize 11 ^ t = E at b4 e11
    refine wp_forC (fun k longer => longer.length ≤ 11 * k ∧ (∀ r ∈ longer, F (t + 1) r) ∧ ∀ r x i, i < k → cuts[i]? = some r → F (t + 1) (r ++ [x]) → r ++ [x] ∈ longer) (fun longer => longer.length ≤ 11 * E ∧ (∀ r ∈ longer, F (t + 1) r) ∧ ∀ r, F (t + 1) r → r ∈ longer) cuts ⟨by simp, fun r hr => (by cases hr), fun r x i hi => by omega⟩ (fun k row s nx2 bk2 hk hI hnx2 _ => ?_) (fun s hs => ⟨by omega, hs.2.1, fun r hr => ?_⟩) fun longer hs => ?_
    · obtain ⟨l1, l2, l3⟩ := hI
      have hkl := (List.getElem?_eq_some_iff.mp hk).1
      obtain ⟨r1, r2⟩ := b5 row (List.mem_of_getElem? hk)
      refine wp_forN (fun i longer => longer.length ≤ 11 * k + i ∧ (∀ r ∈ longer, F (t + 1) r) ∧ (∀ r x i, i < k → cuts[i]? = some r → F (t + 1) (r ++ [x]) → r ++ [x] ∈ longer) ∧ ∀ x, x < 1 + (i : Int) → F (t + 1) (row ++ [x]) → row ++ [x] ∈ longer) (fun longer => longer.length ≤ 11 * (k + 1) ∧ (∀ r ∈ longer, F (t + 1) r) ∧ ∀ r x i, i < k + 1 → cuts[i]? = some r → F (t + 1) (r ++ [x]) → r ++ [x] ∈ longer) ⟨by omega, l2, l3, fun x hx hF => by have := (inc_snoc.mp hF.1).2.1; omega⟩ (fun i s nx3 bk3 hi hI hnx3 _ => ?_) (fun s hs => ⟨by omega, hs.2.1, fun r x i hi hc hF => ?_⟩) fun s hs => hnx2 s hs
      · obtain ⟨m1, m2, m3, m4⟩ := hI
        obtain ⟨b, hb, hb2⟩ := last_b (x := 1 + (i : Int)) r1
        rw [hb, bind_okk]
        have hx : ∀ x, x < 1 + ((i + 1 : Nat) : Int) → x < 1 + (i : Int) ∨ x = 1 + (i : Int) := fun x hx => by omega
        cases b with
        | false =>
          rw [if_neg (by decide)]
          refine hnx3 _ ⟨by omega, m2, m3, fun x hlt hF => ?_⟩
          rcases hx x hlt with z | z
          · exact m4 x z hF
          · subst z
            have := hb2.mpr (inc_snoc.mp hF.1).2.2
            cases this
        | true =>
          have hall := hb2.mp rfl
          rw [if_pos rfl, catR_ok (by simp; omega), bind_okk, appR_ok (by omega), bind_okk]
          refine hnx3 _ ⟨by simp; omega, fun r hr => ?_, fun r x i hi hc hF => List.mem_append.mpr (.inl (m3 r x i hi hc hF)), fun x hlt hF => ?_⟩
          · rcases List.mem_append.mp hr with hr | hr
            · exact m2 r hr
            · rw [List.mem_singleton] at hr
              subst hr
              exact ⟨inc_snoc.mpr ⟨r1, ⟨by omega, by omega⟩, hall⟩, by simp; omega⟩
          · rcases hx x hlt with z | z
            · exact List.mem_append.mpr (.inl (m4 x z hF))
            · subst z
              exact List.mem_append.mpr (.inr (by simp))
      · by_cases e : i = k
        · subst e
          rw [hk] at hc
          cases hc
          exact hs.2.2.2 x (by have := (inc_snoc.mp hF.1).2.1; omega) hF
        · exact hs.2.2.1 r x i (by omega) hc hF
    · rcases List.eq_nil_or_concat r with e | ⟨r0, x, e⟩
      · subst e; have := hr.2; simp at this
      · rw [List.concat_eq_append] at e
        subst e
        have hF0 : F t r0 := ⟨(inc_snoc.mp hr.1).1, by have := hr.2; simp at this; exact this⟩
        obtain ⟨i, hi, e⟩ := List.getElem_of_mem (b7 r0 hF0)
        exact hs.2.2 r0 x i hi (by rw [List.getElem?_eq_getElem hi, e]) hr
    · obtain ⟨l1, l2, l3⟩ := hs
      refine wp_forC (fun k bs => B t bs ∧ bs.length ≤ 1 + 2000 * t + k ∧ ∀ r i, i < k → longer[i]? = some r → ∃ b ∈ bs, Low n g r b) (fun bs => B (t + 1) bs ∧ bs.length ≤ 1 + 2000 * (t + 1)) longer ⟨⟨b1, b2, b6⟩, by omega, fun r i hi => by omega⟩ (fun k row s nx4 bk4 hk hI hnx4 _ => ?_) (fun s hs => ⟨⟨hs.1.1, hs.1.2.1, fun r hr hl => ?_⟩, by omega⟩) fun s hs => hnx (s, longer) ⟨hs.1, hs.2, by dsimp only; omega, l2, l3⟩
      · obtain ⟨⟨j1, j2, j3⟩, j4, j5⟩ := hI
        have hkl := (List.getElem?_eq_some_iff.mp hk).1
        obtain ⟨r1, r2⟩ := l2 row (List.mem_of_getElem? hk)
        refine row_ok2 h r1 (by omega) h4 fun v hv hlow => ?_
        rw [appR_ok (by omega), bind_okk]
        refine hnx4 _ ⟨⟨by simp, fun b hb => ?_, fun r hr hl => ?_⟩, by simp; omega, fun r i hi hr => ?_⟩
        · rcases List.mem_append.mp hb with hb | hb
          · exact j2 b hb
          · rw [List.mem_singleton] at hb; rw [hb]; exact hv
        · obtain ⟨b, hb, hb2⟩ := j3 r hr hl
          exact ⟨b, List.mem_append.mpr (.inl hb), hb2⟩
        · by_cases e : i = k
          · subst e
            rw [hk] at hr
            cases hr
            exact ⟨v, List.mem_append.mpr (.inr (by simp)), hlow⟩
          · obtain ⟨b, hb, hb2⟩ := j5 r i (by omega) hr
            exact ⟨b, List.mem_append.mpr (.inl hb), hb2⟩
      · by_cases e : r.length = t + 1
        · obtain ⟨i, hi, e2⟩ := List.getElem_of_mem (l3 r ⟨hr, e⟩)
          exact hs.2.2 r i hi (by rw [List.getElem?_eq_getElem hi, e2])
        · exact hs.1.2.2 r hr (by omega)
  · obtain ⟨bs, cuts⟩ := s
    obtain ⟨b1, b2, b3⟩ := hs
    dsimp only at b1 b2 b3 ⊢
    rw [minR_ok b1, bind_okk, wp_ok]
    obtain ⟨i1, i2⟩ := imin_mem b1
    refine ⟨b2 _ i1, fun v hv => ?_⟩
    obtain ⟨xs, hx⟩ := cuts_ex (prt_max hg hv) n 0 rfl (by omega)
    have hl := (prt_iff hg hn1 hx).mp hv
    obtain ⟨e, e0, em, en, ev⟩ := cuts_prt_aux hx
    have hx1 : 1 ≤ xs.length := by
      cases hx with
      | done => omega
      | step h1 h2 h3 h4 t => simp
    obtain ⟨m, hm⟩ : ∃ m, xs.length = m + 1 := ⟨xs.length - 1, by omega⟩
    rw [hm] at em en ev hl
    have mono : ∀ d i, i + d ≤ m + 1 → e i + d ≤ e (i + d) := by
      intro d
      induction d with
      | zero => intro i hi; simp
      | succ d ih =>
        intro i hi
        have a1 := ih i (by omega)
        have a2 := (ev (i + d) (by omega)).1
        rw [show i + (d + 1) = i + d + 1 by omega]
        omega
    have hr : IncL n (lst m fun k => (e (k + 1) : Int)) := by
      refine ⟨fun x hx => ?_, ?_⟩
      · obtain ⟨k, hk, rfl⟩ := lst_mem.mp hx
        have a1 := mono (k + 1) 0 (by omega)
        have a2 := mono (m - k) (k + 1) (by omega)
        rw [show 0 + (k + 1) = k + 1 by omega] at a1
        rw [show k + 1 + (m - k) = m + 1 by omega, em] at a2
        omega
      · unfold lst
        rw [List.pairwise_map]
        refine (List.pairwise_lt_range).imp_of_mem ?_
        intro a b ha hb hab
        have hb := List.mem_range.mp hb
        have := mono (b - a) (a + 1) (by omega)
        rw [show a + 1 + (b - a) = b + 1 by omega] at this
        omega
    obtain ⟨b, hb, hlow⟩ := b3 _ hr (by simp; omega)
    have hspt : ∀ j, j ≤ m + 1 → spt n (lst m fun k => (e (k + 1) : Int)) j = (e j : Int) := by
      intro j hj
      unfold spt
      by_cases j0 : j = 0
      · subst j0; rw [e0]; simp [List.getD]
      · by_cases jm : j = m + 1
        · subst jm
          rw [em, List.getD, List.getElem?_append_right (by simp)]
          simp
        · rw [List.getD, List.getElem?_append_left (by simp; omega), List.getElem?_append_right (by simp; omega), lst_get (by simp; omega)]
          simp only [List.length_singleton, Option.getD_some]
          rw [show j - 1 + 1 = j by omega]
    have := hlow v fun j hj => by
      rw [lst_len] at hj
      rw [hspt (j + 1) (by omega), hspt j (by omega), Int.toNat_natCast, Int.toNat_natCast]
      exact (ev j (by omega)).2
    have := i2 b hb
    omega

/-! ### what both tell -/
abbrev Paper := PySem.Str × (Int ⊕ List Int)
def Sps (n : Nat) (g : Nat → Int) (c : Nat) (T : Int) (sp : Nat → Nat) : Prop := sp 0 = 0 ∧ ∀ j, j < c → Fst n g T (sp j) (sp (j + 1))
def PapR (n : Nat) (g : Nat → Int) (c : Nat) (T : Int) (p : Paper) : Prop := (T ∈ lst n g ∧ ∃ k : Nat, indexR (lst n g) T = .ok (k : Int) ∧ (lst n g)[k]? = some T ∧ p = (Str.ofString "bay", .inl (k : Int))) ∨ (T ∉ lst n g ∧ ∃ sp, Sps n g c T sp ∧ p = (Str.ofString "starts", .inr (lst (c + 1) fun j => (sp j : Int))))
def DueR (n : Nat) (g : Nat → Int) (c : Nat) (z : Int × List (Int × Int) × Paper) : Prop := Lst n g c z.1 ∧ Cuts n g z.1 0 z.2.1 ∧ PapR n g c z.1 z.2.2
section
variable {n : Nat} {g : Nat → Int} {c : Nat} {T : Int}
theorem sps_one {sp sq : Nat → Nat} (hg : ∀ k, k < n → 0 ≤ g k) (h : Sps n g c T sp) (h2 : Sps n g c T sq) : ∀ j, j ≤ c → sp j = sq j
  | 0, _ => by rw [h.1, h2.1]
  | j + 1, hj => by
    have e := sps_one hg h h2 j (by omega)
    have a := h.2 j (by omega)
    have b := h2.2 j (by omega)
    rw [← e] at b
    have := fst_min hg a b.1 b.2.2.1
    have := fst_min hg b a.1 a.2.2.1
    omega
theorem due_one {z w : Int × List (Int × Int) × Paper} (hg : ∀ k, k < n → 0 ≤ g k) (h : DueR n g c z) (h2 : DueR n g c w) : z = w := by
  obtain ⟨T, xs, p⟩ := z
  obtain ⟨T2, ys, q⟩ := w
  obtain ⟨a1, a2, a3⟩ := h
  obtain ⟨b1, b2, b3⟩ := h2
  dsimp only at a1 a2 a3 b1 b2 b3
  have := lst_one a1 b1
  subst this
  have := cuts_one hg a2 b2
  subst this
  congr 2
  rcases a3 with ⟨c1, k, c2, c3, c4⟩ | ⟨c1, sp, c2, c3⟩ <;> rcases b3 with ⟨d1, l, d2, d3, d4⟩ | ⟨d1, sq, d2, d3⟩
  · rw [c2] at d2
    cases d2
    rw [c4, d4]
  · exact (d1 c1).elim
  · exact (c1 d1).elim
  · rw [c3, d3]
    congr 2
    exact lst_congr fun j hj => by rw [sps_one hg c2 d2 j (by omega)]
theorem sps_ex (h : Lds n g) (h1 : 1 ≤ c) (hT : Lst n g c T) (hm : T ∉ lst n g) : ∃ sp, Sps n g c T sp := by
  obtain ⟨hn1, hn, hl⟩ := h
  have hg : ∀ k, k < n → 0 ≤ g k := fun k hk => (hl k hk).1
  have hmax := prt_max hg hT.1
  have hT1 : 1 ≤ T := by
    have a1 := hmax 0 (by omega)
    have a2 := hg 0 (by omega)
    have a3 : g 0 ≠ T := fun z => hm (lst_mem.mpr ⟨0, by omega, z⟩)
    omega
  have main : ∀ j, j ≤ c → ∃ sp : Nat → Nat, sp 0 = 0 ∧ ∀ i, i < j → Fst n g T (sp i) (sp (i + 1)) := by
    intro j
    induction j with
    | zero => intro _; exact ⟨fun _ => 0, rfl, fun i hi => by omega⟩
    | succ j ih =>
      intro hj
      obtain ⟨sp, s0, s1⟩ := ih (by omega)
      have hlt : ∀ i, i ≤ j → sp i < n := by
        intro i hi
        cases i with
        | zero => omega
        | succ i => exact (s1 i (by omega)).2.1
      have hq : T ≤ psum g n - psum g (sp j) := by
        by_cases hq : T ≤ psum g n - psum g (sp j)
        · exact hq
        · have hp : Prt n g c (T - 1) := by
            refine ⟨j + 1, fun i => if i = j + 1 then n else sp i, by omega, hj, ?_, ?_, fun i hi => ?_, fun i hi => ?_⟩
            · dsimp only; rw [if_neg (show ¬ (0 = j + 1) by omega), s0]
            · dsimp only; rw [if_pos rfl]
            · dsimp only
              split
              · omega
              · have := hlt i (by omega); omega
            · dsimp only
              rw [if_neg (show ¬ (i = j + 1) by omega)]
              by_cases e : i = j
              · subst e
                rw [if_pos rfl]
                omega
              · rw [if_neg (show ¬ (i + 1 = j + 1) by omega)]
                rcases (s1 i (by omega)).2.2.2 with z | z
                · rw [z]; omega
                · omega
          have := hT.2 _ hp
          omega
      obtain ⟨q, hq⟩ := fst_ex (hlt j (Nat.le_refl _)) hq
      refine ⟨fun i => if i = j + 1 then q else sp i, by dsimp only; rw [if_neg (show ¬ (0 = j + 1) by omega), s0], fun i hi => ?_⟩
      dsimp only
      rw [if_neg (show ¬ (i = j + 1) by omega)]
      by_cases e : i = j
      · subst e
        rw [if_pos rfl]
        exact hq
      · rw [if_neg (show ¬ (i + 1 = j + 1) by omega)]
        exact s1 i (by omega)
  exact main c (Nat.le_refl _)
theorem paper_ok (h : Lds n g) (h1 : 1 ≤ c) (h4 : c ≤ 4) (hT : Lst n g c T) : Wp (m_paper_of (lst n g) (c : Int) T) (PapR n g c T) := by
  have hn := h.2.1
  have hg : ∀ k, k < n → 0 ≤ g k := fun k hk => (h.2.2 k hk).1
  unfold m_paper_of
  refine wp_if (fun hm => ?_) (fun hm => ?_)
  · have hm := of_decide_eq_true hm
    obtain ⟨k, e, e2⟩ := indexR_mem hm
    rw [e, bind_okk, wp_ok]
    exact .inl ⟨hm, k, e, e2, rfl⟩
  · have hm := of_decide_eq_false hm
    obtain ⟨sp, s0, s1⟩ := sps_ex h h1 hT hm
    rw [rngR_nat (by omega), bind_okk]
    have e0 : [(0 : Int)] = lst (0 + 1) fun j => ((sp j : Nat) : Int) := by
      show [(0 : Int)] = [((sp 0 : Nat) : Int)]
      rw [s0]
      rfl
    rw [e0]
    refine wp_eq (x := (Str.ofString "starts", .inr (lst (c + 1) fun j => ((sp j : Nat) : Int)))) (Eq.trans (forC_eq (n := c) (S := fun k => lst (k + 1) fun j => ((sp j : Nat) : Int)) fun k nx bk hk => ?_) rfl) (.inr ⟨hm, sp, ⟨s0, s1⟩, rfl⟩)
    rw [idx_last (by omega), bind_okk, Nat.add_sub_cancel, place_ok (by omega) (s1 k hk) hg, bind_okk, appR_lst' (by omega) rfl, bind_okk]
theorem zones_due (h : Lds n g) (h1 : 1 ≤ c) (h4 : c ≤ 4) : Wp (m_zones (lst n g) (c : Int)) (DueR n g c) := by
  have hg : ∀ k, k < n → 0 ≤ g k := fun k hk => (h.2.2 k hk).1
  unfold m_zones
  rw [check_ok h h1 h4, bind_okk]
  refine (halved_ok h h1).bind' fun T hT => ?_
  refine (stretches_ok h (prt_max hg hT.1)).bind' fun xs hx => ?_
  refine (paper_ok h h1 h4 hT).bind' fun p hp => ?_
  rw [wp_ok]
  exact ⟨hT, hx, hp⟩
theorem map_same {α : Type} {xs : List α} : (xs.map fun p => p) = xs := by simp
theorem law_due (h : Lds n g) (h1 : 1 ≤ c) (h4 : c ≤ 4) : Wp (m__law_due (lst n g) (c : Int)) (DueR n g c) := by
  have hn := h.2.1
  have hn1 := h.1
  have hg : ∀ k, k < n → 0 ≤ g k := fun k hk => (h.2.2 k hk).1
  unfold m__law_due
  refine (least_ok h h1 h4).bind' fun T hT => ?_
  have hmax := prt_max hg hT.1
  rw [bind_okk, lst_len, rngR_nat (by omega), bind_okk]
  refine wp_forN (fun (k : Nat) (s : List (Int × Int) × Int) => ∃ f : Nat, s.2 = ((f : Nat) : Int) ∧ f ≤ n ∧ (k ≤ f ∨ f = n) ∧ s.1.length ≤ k ∧ ∀ xs, Cuts n g T f xs → Cuts n g T 0 (s.1 ++ xs)) (fun s => Cuts n g T 0 s.1) ⟨0, rfl, by omega, by omega, by simp, fun xs hx => hx⟩ (fun k s nx bk hk hI hnx _ => ?_) (fun s hs => ?_) fun s hs => ?_
  · obtain ⟨cuts, first⟩ := s
    obtain ⟨f, i1, i2, i3, i4, i5⟩ := hI
    dsimp only at i1 i4 i5 ⊢
    subst i1
    refine wp_if (fun hc => ?_) (fun hc => ?_)
    · have hc := of_decide_eq_true hc
      have hf : f < n := by omega
      obtain ⟨p, p1, p2, p3, p4⟩ := end_ex hmax hf
      rw [rng2R_ok (by omega) (by omega), bind_okk, filtP_ok (by simp; omega), bind_okk, map_same]
      have hin : ((p : Nat) : Int) ∈ (lst ((n : Int) - (f : Int)).toNat fun k => (f : Int) + (k : Nat)).filter fun p => decide ((cut (lst n g) (some (f : Int)) (some (p + 1))).sum ≤ T) := by
        rw [List.mem_filter]
        refine ⟨lst_mem.mpr ⟨p - f, by omega, by omega⟩, ?_⟩
        rw [sum_step (by omega) (by omega) (by omega), Int.toNat_natCast, Int.toNat_natCast]
        exact decide_eq_true p3
      have hne := List.ne_nil_of_mem hin
      rw [maxR_ok hne, bind_okk]
      obtain ⟨m1, m2⟩ := imax_mem hne
      have b1 := m2 _ hin
      rw [List.mem_filter] at m1
      obtain ⟨m3, m4⟩ := m1
      obtain ⟨i, hi, ei⟩ := lst_mem.mp m3
      rw [← ei, sum_step (by omega) (by omega) (by omega)] at m4
      have m4 := of_decide_eq_true m4
      rw [show ((f : Int) + (i : Nat)).toNat = f + i by omega, Int.toNat_natCast] at m4
      have b2 := cuts_end hg p1 p2 p3 p4 (q := f + i) (by omega) (by omega) m4
      rw [← ei] at b1
      have ep : f + i = p := by omega
      rw [← ei, appR_ok (by omega), bind_okk, bind_okk, show ((f : Int) + (i : Nat)) = ((p : Nat) : Int) by omega]
      refine hnx _ ⟨p + 1, by dsimp only; omega, by omega, by omega, by simp; omega, fun xs hx => ?_⟩
      have := i5 _ (.step p1 p2 p3 p4 hx)
      simpa using this
    · have hc := of_decide_eq_false hc
      exact hnx _ ⟨f, rfl, i2, by omega, by dsimp only; omega, i5⟩
  · obtain ⟨f, i1, i2, i3, i4, i5⟩ := hs
    have : f = n := by omega
    subst this
    have := i5 [] .done
    simpa using this
  · obtain ⟨cuts, first⟩ := s
    dsimp only at hs ⊢
    refine wp_if (fun hm => ?_) (fun hm => ?_)
    · have hm := of_decide_eq_true hm
      obtain ⟨k, e, e2⟩ := indexR_mem hm
      rw [e, bind_okk, wp_ok]
      exact ⟨hT, hs, .inl ⟨hm, k, e, e2, rfl⟩⟩
    · have hm := of_decide_eq_false hm
      obtain ⟨sp, s0, s1⟩ := sps_ex h h1 hT hm
      rw [rngR_nat (by omega), bind_okk]
      have e0 : [(0 : Int)] = lst (0 + 1) fun j => ((sp j : Nat) : Int) := by
        show [(0 : Int)] = [((sp 0 : Nat) : Int)]
        rw [s0]
        rfl
      rw [e0]
      refine wp_eq (x := (T, cuts, (Str.ofString "starts", .inr (lst (c + 1) fun j => ((sp j : Nat) : Int))))) (Eq.trans (forC_eq (n := c) (S := fun k => lst (k + 1) fun j => ((sp j : Nat) : Int)) fun k nx bk hk => ?_) rfl) ⟨hT, hs, .inr ⟨hm, sp, ⟨s0, s1⟩, rfl⟩⟩
      obtain ⟨q1, q2, q3, q4⟩ := s1 k hk
      rw [idx_lst (by omega), bind_okk, rng2R_ok (by omega) (by omega), bind_okk, filtP_ok (by simp; omega), bind_okk, map_same]
      have hin : ((sp (k + 1) : Nat) : Int) ∈ (lst ((n : Int) - (sp k : Int)).toNat fun i => (sp k : Int) + (i : Nat)).filter fun p => decide ((cut (lst n g) (some (sp k : Int)) (some (p + 1))).sum ≥ T) := by
        rw [List.mem_filter]
        refine ⟨lst_mem.mpr ⟨sp (k + 1) - sp k, by omega, by omega⟩, ?_⟩
        rw [sum_step (by omega) (by omega) (by omega), Int.toNat_natCast, Int.toNat_natCast]
        exact decide_eq_true q3
      have hne := List.ne_nil_of_mem hin
      rw [minR_ok hne, bind_okk]
      obtain ⟨m1, m2⟩ := imin_mem hne
      have b1 := m2 _ hin
      rw [List.mem_filter] at m1
      obtain ⟨m3, m4⟩ := m1
      obtain ⟨i, hi, ei⟩ := lst_mem.mp m3
      rw [← ei, sum_step (by omega) (by omega) (by omega)] at m4
      have m4 := of_decide_eq_true m4
      rw [show ((sp k : Int) + (i : Nat)).toNat = sp k + i by omega, Int.toNat_natCast] at m4
      have b2 := fst_min hg (s1 k hk) (p := sp k + i) (by omega) m4
      rw [← ei] at b1
      rw [← ei, show ((sp k : Int) + (i : Nat)) = ((sp (k + 1) : Nat) : Int) by omega, appR_lst' (by omega) rfl, bind_okk]
end

/-! ### parted -/
theorem zones_true {n : Nat} {g : Nat → Int} {c : Nat} {z : Int × List (Int × Int) × Paper} (h : Lds n g) (h1 : 1 ≤ c) (h4 : c ≤ 4) (hz : DueR n g c z) : m_zones_ok (lst n g) (c : Int) z.1 z.2.2 = .ok true := by
  obtain ⟨T, xs, p⟩ := z
  obtain ⟨a1, a2, a3⟩ := hz
  dsimp only at a1 a2 a3 ⊢
  rcases a3 with ⟨c1, k, c2, c3, rfl⟩ | ⟨c1, sp, ⟨s0, s1⟩, rfl⟩
  · obtain ⟨b, e, w⟩ := bay_zones (v := T) (b := (k : Int)) h h1 h4
    rw [e]
    congr 1
    refine w.mpr ?_
    have hk : k < n := by have := (List.getElem?_eq_some_iff.mp c3).1; simpa using this
    rw [lst_get hk] at c3
    have c3 := Option.some.inj c3
    exact ⟨by omega, by omega, by rw [Int.toNat_natCast]; omega⟩
  · obtain ⟨b, e, w⟩ := sts_zones (v := T) (m := c + 1) (f := fun j => ((sp j : Nat) : Int)) h h1 h4 (by omega)
    rw [e]
    congr 1
    refine w.mpr ⟨rfl, fun k hk => ?_, by dsimp only; omega, fun j hj => ?_⟩
    · have hn1 := h.1
      cases k with
      | zero => dsimp only; omega
      | succ k => have := (s1 k (by omega)).2.1; dsimp only; omega
    · obtain ⟨q1, q2, q3, q4⟩ := s1 j hj
      dsimp only
      rw [Int.toNat_natCast, Int.toNat_natCast]
      exact ⟨by omega, q3⟩
theorem pln_pap {n : Nat} {g : Nat → Int} {c m : Nat} {T : Int} {p : Paper} (h4 : c ≤ 4) (hp : PapR n g c T p) : pln (m + 2) (jT (jC jS (j1 (jZ jI (jL .shr jI)))) p) = true := by
  rcases hp with ⟨c1, k, c2, c3, rfl⟩ | ⟨c1, sp, s1, rfl⟩
  · exact pln_jT (n := m + 1) (by show 2 ≤ _; decide) (by show ([jS _, jI (k : Int)].all (pln (m + 1))) = true; simp)
  · refine pln_jT (n := m + 1) (by show 2 ≤ _; decide) ?_
    show ([jS _, jL .shr jI (lst (c + 1) fun j => ((sp j : Nat) : Int))].all (pln (m + 1))) = true
    rw [List.all_cons, List.all_cons, pln_jL (n := m) (by rw [lst_len]; omega) fun x _ => pln_jI]
    simp
theorem due_len {n : Nat} {g : Nat → Int} {c : Nat} {z : Int × List (Int × Int) × Paper} (h : Lds n g) (hz : DueR n g c z) : z.2.1.length ≤ c := (prt_iff (fun k hk => (h.2.2 k hk).1) h.1 hz.2.1).mp hz.1.1
theorem pln_due {n : Nat} {g : Nat → Int} {c : Nat} {z : Int × List (Int × Int) × Paper} (h : Lds n g) (h4 : c ≤ 4) (hz : DueR n g c z) : pln 7 ((jT (jC jI (jC (jL .shr (jT (jC jI (j1 jI)))) (j1 (jT (jC jS (j1 (jZ jI (jL .shr jI))))))))) z) = true := by
  have hl := due_len h hz
  refine pln_jT (n := 6) (by show 3 ≤ _; decide) ?_
  show ([jI z.1, jL .shr (jT (jC jI (j1 jI))) z.2.1, jT (jC jS (j1 (jZ jI (jL .shr jI)))) z.2.2].all (pln 6)) = true
  rw [List.all_cons, List.all_cons, List.all_cons, pln_pap (m := 4) h4 hz.2.2, pln_jL (n := 5) (by omega) fun x _ => pln_jT (n := 4) (by show 2 ≤ _; decide) (by show ([jI x.1, jI x.2].all (pln 4)) = true; simp)]
  simp
/-- one asking -/
theorem ask {n : Nat} {g : Nat → Int} {c : Nat} (h : Lds n g) (h1 : 1 ≤ c) (h4 : c ≤ 4) : ∃ z, m_zones (lst n g) (c : Int) = .ok z ∧ m__law_due (lst n g) (c : Int) = .ok z ∧ DueR n g c z := by
  obtain ⟨z, e1, w1⟩ := zones_due h h1 h4
  obtain ⟨w, e2, w2⟩ := law_due h h1 h4
  have := due_one (fun k hk => (h.2.2 k hk).1) w1 w2
  subst this
  exact ⟨z, e1, e2, w1⟩
theorem parted_ok {n : Nat} {g : Nat → Int} {c : Nat} (h : Lds n g) (h1 : 1 ≤ c) (h4 : c ≤ 4) : m__law_parted (lst n g) (c : Int) = .ok true := by
  have hn := h.2.1
  obtain ⟨z, e1, e2, hz⟩ := ask h h1 h4
  have hl := due_len h hz
  have hp := pln_due h h4 hz
  unfold m__law_parted
  rw [e2, bind_okk, show rngR 2 = .ok (lst 2 fun k => (k : Int)) from rngR_nat (n := 2) (by omega), bind_okk]
  refine Eq.trans (forC_eq (n := 2) (S := fun _ => ()) ?_) ?_
  · intro k nx bk hk
    rw [e1, bind_okk, same_self hp, bind_okk, if_neg (by decide), same_self (pln_jL (n := 6) (by simp; omega) fun x _ => pln_jI), bind_okk, bind_okk, if_neg (by decide), bind_okk, appR_ok (by simp; omega), bind_okk]
    obtain ⟨T, xs, p⟩ := z
    obtain ⟨a1, a2, a3⟩ := hz
    dsimp only at a3 ⊢
    rcases a3 with ⟨c1, k, c2, c3, rfl⟩ | ⟨c1, sp, s1, rfl⟩
    · show (if decide (Str.ofString "bay" = Str.ofString "starts") = true then _ else _) = _
      rw [show decide (Str.ofString "bay" = Str.ofString "starts") = false by decide, if_neg (by decide)]
    · rw [decide_eq_true rfl, if_pos rfl]
      show ((appR (lst (c + 1) fun j => ((sp j : Nat) : Int)) (k : Int)).bind fun spots => (R.ok spots.reverse).bind fun _ => nx ()) = _
      rw [appR_ok (by simp; omega), bind_okk, bind_okk]
  · unfold cpR
    rw [if_pos (pln_pap (m := 5) h4 hz.2.2), bind_okk, zones_true h h1 h4 hz, bind_okk, same_self pln_jB, bind_okk, if_neg (by decide), bind_okk, lst_rev]
    have h' : Lds n fun i => g (n - 1 - i) := ⟨h.1, h.2.1, fun k hk => h.2.2 _ (by omega)⟩
    obtain ⟨w, f1, f2, hw⟩ := ask h' h1 h4
    rw [f2, bind_okk, f1, bind_okk, same_self (pln_due h' h4 hw), bind_okk]
/-! ### refusals and the whole -/
def Refd (r : List Int × Int × PySem.Str) : Prop := refR ((m_zones r.1 r.2.1).bind fun t19 => .ok t19) r.2.2 = .ok true
theorem ref_loads {xs : List Int} {c : Int} (hl : xs.length < 1000) (h : (xs.length < 1 ∨ 12 < xs.length) ∨ ∃ x ∈ xs, x < 0 ∨ 99 < x) : Refd (xs, c, Str.ofString "loads") := by
  unfold Refd m_zones m_check_loads
  dsimp only
  by_cases h1 : xs.length < 1 ∨ 12 < xs.length
  · have : (decide ((1 : Int) ≤ (xs.length : Int)) && decide ((xs.length : Int) ≤ 12)) = false := by rw [Bool.and_eq_false_iff, decide_eq_false_iff_not, decide_eq_false_iff_not]; omega
    rw [this]
    rfl
  · have : (decide ((1 : Int) ≤ (xs.length : Int)) && decide ((xs.length : Int) ≤ 12)) = true := by rw [Bool.and_eq_true_iff, decide_eq_true_eq, decide_eq_true_eq]; omega
    obtain ⟨x, hx, h2⟩ := h.resolve_left h1
    have e : (xs.all fun x => decide (0 ≤ x) && decide (x ≤ 99)) = false := by
      rw [List.all_eq_false]
      exact ⟨x, hx, by simp; omega⟩
    rw [this, if_pos rfl, all_rng hl, e]
    rfl
theorem ref_cranes {n : Nat} {g : Nat → Int} {c : Int} (h : Lds n g) (hc : c < 1 ∨ 4 < c) : Refd (lst n g, c, Str.ofString "cranes") := by
  obtain ⟨a1, a2, a3⟩ := h
  unfold Refd m_zones m_check_loads m_in_range
  dsimp only
  have e1 : (decide ((1 : Int) ≤ ((lst n g).length : Int)) && decide (((lst n g).length : Int) ≤ 12)) = true := by rw [lst_len]; simp; omega
  have e2 : ((lst n g).all fun x => decide (0 ≤ x) && decide (x ≤ 99)) = true := by
    simp only [List.all_eq_true, lst_mem]
    rintro x ⟨k, hk, rfl⟩
    have := a3 k hk
    simp; omega
  have e3 : (decide (1 ≤ c) && decide (c ≤ 4)) = false := by rw [Bool.and_eq_false_iff, decide_eq_false_iff_not, decide_eq_false_iff_not]; omega
  rw [e1, if_pos rfl, all_rng (by simp; omega), bind_okk, e2, bind_okk, e3]
  rfl
theorem beyond_ok {pool : Pool} {n : Nat} {g : Nat → Int} {c : Int} (h : Lds n g) : Wp (m__law_beyond pool (lst n g) c) fun z => Refd z.1 := by
  have hn := h.2.1
  have hn1 := h.1
  unfold m__law_beyond
  rw [lst_len]
  refine (draw_ok (by omega) (by omega)).bind' fun z hz => ?_
  obtain ⟨at_, pool2⟩ := z
  dsimp only at hz ⊢
  refine (draw_ok (by omega) (by omega)).bind' fun z hz2 => ?_
  obtain ⟨way, pool3⟩ := z
  dsimp only at hz2 ⊢
  have er : repR [(0 : Int)] 13 = .ok [0, 0, 0, 0, 0, 0, 0, 0, 0, 0, 0, 0, 0] := rfl
  refine wp_if (fun hw => ?_) (fun hw => ?_)
  · have hw := of_decide_eq_true hw
    have : ∃ t, idx [(0 : Int), 5] way = .ok t ∧ (t < 1 ∨ 4 < t) := by
      have : way = 0 ∨ way = 1 := by omega
      rcases this with e | e <;> subst e
      · exact ⟨0, rfl, by omega⟩
      · exact ⟨5, rfl, by omega⟩
    obtain ⟨t, e, ht⟩ := this
    rw [e, bind_okk, wp_ok]
    exact ref_cranes h ht
  have hw := of_decide_eq_false hw
  refine wp_if (fun hw => ?_) (fun hw2 => ?_)
  · rw [wp_ok]; exact ref_loads (by simp) (.inl (.inl (by simp)))
  have hw2 := of_decide_eq_false hw2
  refine wp_if (fun hw => ?_) (fun hw3 => ?_)
  · rw [er, bind_okk, catR_ok (by simp <;> omega), bind_okk, wp_ok]
    exact ref_loads (by simp <;> omega) (.inl (.inr (by simp <;> omega)))
  have hw3 := of_decide_eq_false hw3
  refine wp_if (fun hw => ?_) (fun hw4 => ?_)
  · rw [er, bind_okk, catR_ok (by simp <;> omega), bind_okk, wp_ok, show (13 : Int) = ((13 : Nat) : Int) from rfl, cut_to]
    exact ref_loads (by simp <;> omega) (.inl (.inr (by simp)))
  have hw4 := of_decide_eq_false hw4
  have : ∃ t, idx [(100 : Int), -1] (way - 5) = .ok t ∧ (t < 0 ∨ 99 < t) := by
    have : way = 5 ∨ way = 6 := by omega
    rcases this with e | e <;> subst e
    · exact ⟨100, rfl, by omega⟩
    · exact ⟨-1, rfl, by omega⟩
  obtain ⟨t, e, ht⟩ := this
  have c1 := cut_len (xs := lst n g) (lo := none) (hi := some at_)
  have c2 := cut_len (xs := lst n g) (lo := some (at_ + 1)) (hi := none)
  rw [lst_len] at c1 c2
  rw [e, bind_okk, catR_ok (by simp <;> omega), bind_okk, catR_ok (by simp <;> omega), bind_okk, wp_ok]
  exact ref_loads (by simp <;> omega) (.inr ⟨t, by simp, ht⟩)
theorem loads_ok {pool : Pool} : Wp (m__law_loads pool) fun z => ∃ n g, z.1 = lst n g ∧ Lds n g := by
  unfold m__law_loads m__law_chance
  refine (draw_ok (by omega) (by omega)).bind' fun z hz => ?_
  obtain ⟨t, pool2⟩ := z
  dsimp only at hz ⊢
  rw [bind_okk]
  refine Wp.bind' (Q := fun _ => True) ((draw_ok (by omega) (by omega)).bind' fun z hz => by rw [wp_ok]; trivial) fun z hz => ?_
  refine wp_J (fun s => 1 ≤ s.2 ∧ s.2 ≤ 12) ?_ fun j hj => ?_
  · rintro ⟨pool4, many⟩ hm
    dsimp only at hm ⊢
    obtain ⟨n, rfl⟩ : ∃ n : Nat, many = n := ⟨many.toNat, by omega⟩
    refine (draw_ok (by omega) (by omega)).bind' fun z hz => ?_
    obtain ⟨style, pool5⟩ := z
    dsimp only
    refine (draw_ok (by omega) (by omega)).bind' fun z hz => ?_
    obtain ⟨first, pool6⟩ := z
    dsimp only at hz ⊢
    rw [rngR_nat (by omega), bind_okk]
    refine wp_forN (fun (k : Nat) (s : Pool × List Int) => s.2.length = k ∧ ∀ y ∈ s.2, 0 ≤ y ∧ y ≤ 99) (fun s => s.2.length = n ∧ ∀ y ∈ s.2, 0 ≤ y ∧ y ≤ 99) ⟨rfl, fun y hy => by cases hy⟩ (fun k s nx bk hk hI hnx _ => ?_) (fun s hs => hs) fun s hs => ?_
    · obtain ⟨pool7, xs⟩ := s
      obtain ⟨i1, i2⟩ := hI
      dsimp only at i1 i2 ⊢
      have key : ∀ (y : Int) (pool8 : Pool), 0 ≤ y → y ≤ 99 → Wp ((appR xs y).bind fun l => nx (pool8, l)) fun z => ∃ n g, z.1 = lst n g ∧ Lds n g := by
        intro y pool8 y0 y1
        rw [appR_ok (by omega), bind_okk]
        refine hnx _ ⟨by simp; omega, fun w hw => ?_⟩
        rcases List.mem_append.mp hw with hw | hw
        · exact i2 w hw
        · rw [List.mem_singleton] at hw; subst hw; exact ⟨y0, y1⟩
      refine wp_if (fun _ => ?_) (fun _ => ?_)
      · exact (draw_ok (by omega) (by omega)).bind' fun z hz => key _ _ (by omega) (by omega)
      refine wp_if (fun _ => ?_) (fun _ => ?_)
      · exact (draw_ok (by omega) (by omega)).bind' fun z hz => key _ _ (by omega) (by omega)
      refine wp_if (fun _ => ?_) (fun _ => ?_)
      · unfold m__law_pick
        refine Wp.bind' (Q := fun z => 0 ≤ z.1 ∧ z.1 ≤ 99) ?_ fun z hz => key _ _ hz.1 hz.2
        refine (draw_ok (by simp) (by simp)).bind' fun z hz3 => ?_
        obtain ⟨x, e, hx⟩ := idx_some hz3.1 hz3.2
        try dsimp only
        rw [e, bind_okk, wp_ok]
        simp at hx
        dsimp only
        omega
      · refine (draw_ok (by omega) (by omega)).bind' fun z hz => key _ _ ?_ ?_ <;> unfold imax2 <;> split <;> omega
    · rw [wp_ok]
      obtain ⟨p2, xs⟩ := s
      obtain ⟨h1, h2⟩ := hs
      dsimp only at h1 h2 ⊢
      refine ⟨n, fun k => xs.getD k default, ?_, by omega, by omega, fun k hk => ?_⟩
      · conv => lhs; rw [lst_of xs, h1]
      · have : xs.getD k default = xs[k]'(by omega) := by rw [List.getD, List.getElem?_eq_getElem (by omega)]; rfl
        dsimp only
        rw [this]
        exact h2 _ (List.getElem_mem _)
  · obtain ⟨t2, pool3⟩ := z
    try dsimp only
    refine wp_if (fun _ => ?_) (fun _ => ?_)
    · refine (draw_ok (by omega) (by omega)).bind' fun z hz => ?_
      try dsimp only
      rw [bind_okk]
      exact hj _ ⟨by dsimp only; omega, by dsimp only; omega⟩
    · exact hj _ ⟨by dsimp only; omega, by dsimp only; omega⟩
theorem law_ok (ns : List Int) : m_law ns = .ok true := by
  refine Wp.ok_eq ?_
  unfold m_law
  rw [show rngR 2 = .ok (lst 2 fun k => (k : Int)) from rngR_nat (n := 2) (by omega), bind_okk]
  refine wp_forN (fun _ _ => True) (fun _ => True) trivial (fun turn s nx bk hturn _ hnx _ => ?_) (fun _ _ => trivial) fun _ _ => by rw [wp_ok]
  refine (pool_ok (by omega)).bind' fun pool _ => ?_
  refine loads_ok.bind' fun z hz => ?_
  obtain ⟨xs, pool2⟩ := z
  obtain ⟨n, g, hxs, hL⟩ := hz
  dsimp only at hxs ⊢
  subst hxs
  refine (draw_ok (by omega) (by omega)).bind' fun z hz => ?_
  obtain ⟨t, pool3⟩ := z
  dsimp only at hz ⊢
  obtain ⟨c, hc⟩ : ∃ c : Nat, 1 + t = c := ⟨(1 + t).toNat, by omega⟩
  rw [bind_okk, hc, parted_ok hL (by omega) (by omega), bind_okk, if_neg (by decide)]
  refine (draw_ok (by omega) (by omega)).bind' fun z hz2 => ?_
  obtain ⟨t3, pool4⟩ := z
  dsimp only at hz2 ⊢
  obtain ⟨d, hd⟩ : ∃ d : Nat, ((c : Int) + t3) % 4 + 1 = d := ⟨(((c : Int) + t3) % 4 + 1).toNat, by omega⟩
  rw [bind_okk, hd]
  obtain ⟨z, e1, e2, hz3⟩ := ask hL (c := d) (by omega) (by omega)
  rw [e1, bind_okk, e2, bind_okk, same_self (pln_due hL (by omega) hz3), bind_okk, if_neg (by decide)]
  refine (beyond_ok hL).bind' fun z hz => ?_
  obtain ⟨row, pool5⟩ := z
  have hz : Refd row := hz
  unfold Refd at hz
  try dsimp only
  rw [hz, bind_okk, if_neg (by decide)]
  exact hnx _ trivial
theorem law_true (f : Fl) (hf : f = .kon ∨ f = .shr) (ns : List Int) (h : ns.length ≤ 63) : G_law [.lst f (ns.map .int)] = .ok (.bl true, []) := by
  rcases hf with rfl | rfl
  · have := (ck_law ns).h
    rw [law_ok ns] at this
    exact this
  · have := (c_law ns).h
    rw [law_ok ns] at this
    exact this

end K
namespace K
open PySem PySem.Spec L2 DL
section
/-- what the top has written -/
theorem all_mk {l : PySem.W.OpenLaw} {w : World} {K : PySem.W.Frag} {h : Heap} {mg : Str → Option Value} {fa : Addr} (X : K.In h) (G : h.Ns mainGlobals mg) (hfa : mg "law" = some (.ref fa))
    {p0 : Addr} {od0 an0 : Option Addr} {sl0 : Array (Option Value)} {oc0 kV0 dc0 pm0 cd0 ct0 : Value}
    {p1 : Addr} {od1 an1 : Option Addr} {sl1 : Array (Option Value)} {oc1 kV1 dc1 pm1 cd1 ct1 : Value}
    {p2 : Addr} {od2 an2 : Option Addr} {sl2 : Array (Option Value)} {oc2 kV2 dc2 pm2 cd2 ct2 : Value}
    {p3 : Addr} {od3 an3 : Option Addr} {sl3 : Array (Option Value)} {oc3 kV3 dc3 pm3 cd3 ct3 : Value}
    {p4 : Addr} {od4 an4 : Option Addr} {sl4 : Array (Option Value)} {oc4 kV4 dc4 pm4 cd4 ct4 : Value}
    {p5 : Addr} {od5 an5 : Option Addr} {sl5 : Array (Option Value)} {oc5 kV5 dc5 pm5 cd5 ct5 : Value}
    {p6 : Addr} {od6 an6 : Option Addr} {sl6 : Array (Option Value)} {oc6 kV6 dc6 pm6 cd6 ct6 : Value}
    {p7 : Addr} {od7 an7 : Option Addr} {sl7 : Array (Option Value)} {oc7 kV7 dc7 pm7 cd7 ct7 : Value}
    {p8 : Addr} {od8 an8 : Option Addr} {sl8 : Array (Option Value)} {oc8 kV8 dc8 pm8 cd8 ct8 : Value}
    {p9 : Addr} {od9 an9 : Option Addr} {sl9 : Array (Option Value)} {oc9 kV9 dc9 pm9 cd9 ct9 : Value}
    {p10 : Addr} {od10 an10 : Option Addr} {sl10 : Array (Option Value)} {oc10 kV10 dc10 pm10 cd10 ct10 : Value}
    {p11 : Addr} {od11 an11 : Option Addr} {sl11 : Array (Option Value)} {oc11 kV11 dc11 pm11 cd11 ct11 : Value}
    {p12 : Addr} {od12 an12 : Option Addr} {sl12 : Array (Option Value)} {oc12 kV12 dc12 pm12 cd12 ct12 : Value}
    {p13 : Addr} {od13 an13 : Option Addr} {sl13 : Array (Option Value)} {oc13 kV13 dc13 pm13 cd13 ct13 : Value}
    {p14 : Addr} {od14 an14 : Option Addr} {sl14 : Array (Option Value)} {oc14 kV14 dc14 pm14 cd14 ct14 : Value}
    {p15 : Addr} {od15 an15 : Option Addr} {sl15 : Array (Option Value)} {oc15 kV15 dc15 pm15 cd15 ct15 : Value}
    {p16 : Addr} {od16 an16 : Option Addr} {sl16 : Array (Option Value)} {oc16 kV16 dc16 pm16 cd16 ct16 : Value}
    {p17 : Addr} {od17 an17 : Option Addr} {sl17 : Array (Option Value)} {oc17 kV17 dc17 pm17 cd17 ct17 : Value}
    {p18 : Addr} {od18 an18 : Option Addr} {sl18 : Array (Option Value)} {oc18 kV18 dc18 pm18 cd18 ct18 : Value}
    {p19 : Addr} {od19 an19 : Option Addr} {sl19 : Array (Option Value)} {oc19 kV19 dc19 pm19 cd19 ct19 : Value}
    {p20 : Addr} {od20 an20 : Option Addr} {sl20 : Array (Option Value)} {oc20 kV20 dc20 pm20 cd20 ct20 : Value}
    {p21 : Addr} {od21 an21 : Option Addr} {sl21 : Array (Option Value)} {oc21 kV21 dc21 pm21 cd21 ct21 : Value}
    {p22 : Addr} {od22 an22 : Option Addr} {sl22 : Array (Option Value)} {oc22 kV22 dc22 pm22 cd22 ct22 : Value}
    {p23 : Addr} {od23 an23 : Option Addr} {sl23 : Array (Option Value)} {oc23 kV23 dc23 pm23 ct23 : Value}
    {cc23 tp23 : Addr}
    {C_HarbourError : Addr}
    {C_BadValue : Addr}
    {C_TooMany : Addr}
    {C_NoStory : Addr}
    {C_Over : Addr}
    {C_DeskError : Addr}
    {nm_BadValue q_BadValue : Str} {N_BadValue : Addr} {bs_BadValue : List Value} {sn_BadValue : List Str} {sub_BadValue : List Value} {ab_BadValue : Bool} {col_BadValue : Option Bool} {dd_BadValue : Option Addr} {m0_BadValue m1_BadValue m2_BadValue m3_BadValue m5_BadValue : Option Value}
    {fI_BadValue cda_BadValue cc_BadValue : Addr} {oc_BadValue doc_BadValue pm_BadValue ct_BadValue ccl_BadValue cl_BadValue : Value} {od_BadValue an_BadValue cdd_BadValue cld_BadValue : Option Addr} {osl_BadValue ccs_BadValue csl_BadValue : Array (Option Value)} {vs_BadValue : Array Value} {file_BadValue : Str} {tf_BadValue : Tok}
    {gR : Addr} {ocR kVR dcR pmR cdR ctR : Value} {odR anR : Option Addr} {slR : Array (Option Value)}
    (a0 : PySem.W.nsIn K mainGlobals "check" = some (some (.ref p0))) (l0 : K.lookup p0 = some ⟨oc0, od0, .func (PySem.W.fnOf "check" "check" (defArgs s_check) (defBody s_check) (defScope s_check) .none kV0 dc0 pm0 an0 cd0 ct0), sl0⟩) (c0 : PySem.W.codeIn K cd0 "check" = true) (k0 : PySem.W.keepIn K (.ref p0) = true)
    (a1 : PySem.W.nsIn K mainGlobals "in_range" = some (some (.ref p1))) (l1 : K.lookup p1 = some ⟨oc1, od1, .func (PySem.W.fnOf "in_range" "in_range" (defArgs s_in_range) (defBody s_in_range) (defScope s_in_range) .none kV1 dc1 pm1 an1 cd1 ct1), sl1⟩) (c1 : PySem.W.codeIn K cd1 "in_range" = true) (k1 : PySem.W.keepIn K (.ref p1) = true)
    (a2 : PySem.W.nsIn K mainGlobals "all_in_range" = some (some (.ref p2))) (l2 : K.lookup p2 = some ⟨oc2, od2, .func (PySem.W.fnOf "all_in_range" "all_in_range" (defArgs s_all_in_range) (defBody s_all_in_range) (defScope s_all_in_range) .none kV2 dc2 pm2 an2 cd2 ct2), sl2⟩) (c2 : PySem.W.codeIn K cd2 "all_in_range" = true) (k2 : PySem.W.keepIn K (.ref p2) = true)
    (a3 : PySem.W.nsIn K mainGlobals "check_loads" = some (some (.ref p3))) (l3 : K.lookup p3 = some ⟨oc3, od3, .func (PySem.W.fnOf "check_loads" "check_loads" (defArgs s_check_loads) (defBody s_check_loads) (defScope s_check_loads) .none kV3 dc3 pm3 an3 cd3 ct3), sl3⟩) (c3 : PySem.W.codeIn K cd3 "check_loads" = true) (k3 : PySem.W.keepIn K (.ref p3) = true)
    (a4 : PySem.W.nsIn K mainGlobals "stretches" = some (some (.ref p4))) (l4 : K.lookup p4 = some ⟨oc4, od4, .func (PySem.W.fnOf "stretches" "stretches" (defArgs s_stretches) (defBody s_stretches) (defScope s_stretches) .none kV4 dc4 pm4 an4 cd4 ct4), sl4⟩) (c4 : PySem.W.codeIn K cd4 "stretches" = true) (k4 : PySem.W.keepIn K (.ref p4) = true)
    (a5 : PySem.W.nsIn K mainGlobals "least_most" = some (some (.ref p5))) (l5 : K.lookup p5 = some ⟨oc5, od5, .func (PySem.W.fnOf "least_most" "least_most" (defArgs s_least_most) (defBody s_least_most) (defScope s_least_most) .none kV5 dc5 pm5 an5 cd5 ct5), sl5⟩) (c5 : PySem.W.codeIn K cd5 "least_most" = true) (k5 : PySem.W.keepIn K (.ref p5) = true)
    (a6 : PySem.W.nsIn K mainGlobals "place_of_sum" = some (some (.ref p6))) (l6 : K.lookup p6 = some ⟨oc6, od6, .func (PySem.W.fnOf "place_of_sum" "place_of_sum" (defArgs s_place_of_sum) (defBody s_place_of_sum) (defScope s_place_of_sum) .none kV6 dc6 pm6 an6 cd6 ct6), sl6⟩) (c6 : PySem.W.codeIn K cd6 "place_of_sum" = true) (k6 : PySem.W.keepIn K (.ref p6) = true)
    (a7 : PySem.W.nsIn K mainGlobals "paper_of" = some (some (.ref p7))) (l7 : K.lookup p7 = some ⟨oc7, od7, .func (PySem.W.fnOf "paper_of" "paper_of" (defArgs s_paper_of) (defBody s_paper_of) (defScope s_paper_of) .none kV7 dc7 pm7 an7 cd7 ct7), sl7⟩) (c7 : PySem.W.codeIn K cd7 "paper_of" = true) (k7 : PySem.W.keepIn K (.ref p7) = true)
    (a8 : PySem.W.nsIn K mainGlobals "zones" = some (some (.ref p8))) (l8 : K.lookup p8 = some ⟨oc8, od8, .func (PySem.W.fnOf "zones" "zones" (defArgs s_zones) (defBody s_zones) (defScope s_zones) .none kV8 dc8 pm8 an8 cd8 ct8), sl8⟩) (c8 : PySem.W.codeIn K cd8 "zones" = true) (k8 : PySem.W.keepIn K (.ref p8) = true)
    (a9 : PySem.W.nsIn K mainGlobals "zones_ok" = some (some (.ref p9))) (l9 : K.lookup p9 = some ⟨oc9, od9, .func (PySem.W.fnOf "zones_ok" "zones_ok" (defArgs s_zones_ok) (defBody s_zones_ok) (defScope s_zones_ok) .none kV9 dc9 pm9 an9 cd9 ct9), sl9⟩) (c9 : PySem.W.codeIn K cd9 "zones_ok" = true) (k9 : PySem.W.keepIn K (.ref p9) = true)
    (a10 : PySem.W.nsIn K mainGlobals "_law_cell" = some (some (.ref p10))) (l10 : K.lookup p10 = some ⟨oc10, od10, .func (PySem.W.fnOf "_law_cell" "_law_cell" (defArgs s__law_cell) (defBody s__law_cell) (defScope s__law_cell) .none kV10 dc10 pm10 an10 cd10 ct10), sl10⟩) (c10 : PySem.W.codeIn K cd10 "_law_cell" = true) (k10 : PySem.W.keepIn K (.ref p10) = true)
    (a11 : PySem.W.nsIn K mainGlobals "_law_mixed" = some (some (.ref p11))) (l11 : K.lookup p11 = some ⟨oc11, od11, .func (PySem.W.fnOf "_law_mixed" "_law_mixed" (defArgs s__law_mixed) (defBody s__law_mixed) (defScope s__law_mixed) .none kV11 dc11 pm11 an11 cd11 ct11), sl11⟩) (c11 : PySem.W.codeIn K cd11 "_law_mixed" = true) (k11 : PySem.W.keepIn K (.ref p11) = true)
    (a12 : PySem.W.nsIn K mainGlobals "_law_pool" = some (some (.ref p12))) (l12 : K.lookup p12 = some ⟨oc12, od12, .func (PySem.W.fnOf "_law_pool" "_law_pool" (defArgs s__law_pool) (defBody s__law_pool) (defScope s__law_pool) .none kV12 dc12 pm12 an12 cd12 ct12), sl12⟩) (c12 : PySem.W.codeIn K cd12 "_law_pool" = true) (k12 : PySem.W.keepIn K (.ref p12) = true)
    (a13 : PySem.W.nsIn K mainGlobals "_law_draw" = some (some (.ref p13))) (l13 : K.lookup p13 = some ⟨oc13, od13, .func (PySem.W.fnOf "_law_draw" "_law_draw" (defArgs s__law_draw) (defBody s__law_draw) (defScope s__law_draw) .none kV13 dc13 pm13 an13 cd13 ct13), sl13⟩) (c13 : PySem.W.codeIn K cd13 "_law_draw" = true) (k13 : PySem.W.keepIn K (.ref p13) = true)
    (a14 : PySem.W.nsIn K mainGlobals "_law_chance" = some (some (.ref p14))) (l14 : K.lookup p14 = some ⟨oc14, od14, .func (PySem.W.fnOf "_law_chance" "_law_chance" (defArgs s__law_chance) (defBody s__law_chance) (defScope s__law_chance) .none kV14 dc14 pm14 an14 cd14 ct14), sl14⟩) (c14 : PySem.W.codeIn K cd14 "_law_chance" = true) (k14 : PySem.W.keepIn K (.ref p14) = true)
    (a15 : PySem.W.nsIn K mainGlobals "_law_pick" = some (some (.ref p15))) (l15 : K.lookup p15 = some ⟨oc15, od15, .func (PySem.W.fnOf "_law_pick" "_law_pick" (defArgs s__law_pick) (defBody s__law_pick) (defScope s__law_pick) .none kV15 dc15 pm15 an15 cd15 ct15), sl15⟩) (c15 : PySem.W.codeIn K cd15 "_law_pick" = true) (k15 : PySem.W.keepIn K (.ref p15) = true)
    (a16 : PySem.W.nsIn K mainGlobals "_law_same" = some (some (.ref p16))) (l16 : K.lookup p16 = some ⟨oc16, od16, .func (PySem.W.fnOf "_law_same" "_law_same" (defArgs s__law_same) (defBody s__law_same) (defScope s__law_same) .none kV16 dc16 pm16 an16 cd16 ct16), sl16⟩) (c16 : PySem.W.codeIn K cd16 "_law_same" = true) (k16 : PySem.W.keepIn K (.ref p16) = true)
    (a17 : PySem.W.nsIn K mainGlobals "_law_copy" = some (some (.ref p17))) (l17 : K.lookup p17 = some ⟨oc17, od17, .func (PySem.W.fnOf "_law_copy" "_law_copy" (defArgs s__law_copy) (defBody s__law_copy) (defScope s__law_copy) .none kV17 dc17 pm17 an17 cd17 ct17), sl17⟩) (c17 : PySem.W.codeIn K cd17 "_law_copy" = true) (k17 : PySem.W.keepIn K (.ref p17) = true)
    (a18 : PySem.W.nsIn K mainGlobals "_law_least_most" = some (some (.ref p18))) (l18 : K.lookup p18 = some ⟨oc18, od18, .func (PySem.W.fnOf "_law_least_most" "_law_least_most" (defArgs s__law_least_most) (defBody s__law_least_most) (defScope s__law_least_most) .none kV18 dc18 pm18 an18 cd18 ct18), sl18⟩) (c18 : PySem.W.codeIn K cd18 "_law_least_most" = true) (k18 : PySem.W.keepIn K (.ref p18) = true)
    (a19 : PySem.W.nsIn K mainGlobals "_law_due" = some (some (.ref p19))) (l19 : K.lookup p19 = some ⟨oc19, od19, .func (PySem.W.fnOf "_law_due" "_law_due" (defArgs s__law_due) (defBody s__law_due) (defScope s__law_due) .none kV19 dc19 pm19 an19 cd19 ct19), sl19⟩) (c19 : PySem.W.codeIn K cd19 "_law_due" = true) (k19 : PySem.W.keepIn K (.ref p19) = true)
    (a20 : PySem.W.nsIn K mainGlobals "_law_loads" = some (some (.ref p20))) (l20 : K.lookup p20 = some ⟨oc20, od20, .func (PySem.W.fnOf "_law_loads" "_law_loads" (defArgs s__law_loads) (defBody s__law_loads) (defScope s__law_loads) .none kV20 dc20 pm20 an20 cd20 ct20), sl20⟩) (c20 : PySem.W.codeIn K cd20 "_law_loads" = true) (k20 : PySem.W.keepIn K (.ref p20) = true)
    (a21 : PySem.W.nsIn K mainGlobals "_law_parted" = some (some (.ref p21))) (l21 : K.lookup p21 = some ⟨oc21, od21, .func (PySem.W.fnOf "_law_parted" "_law_parted" (defArgs s__law_parted) (defBody s__law_parted) (defScope s__law_parted) .none kV21 dc21 pm21 an21 cd21 ct21), sl21⟩) (c21 : PySem.W.codeIn K cd21 "_law_parted" = true) (k21 : PySem.W.keepIn K (.ref p21) = true)
    (a22 : PySem.W.nsIn K mainGlobals "_law_beyond" = some (some (.ref p22))) (l22 : K.lookup p22 = some ⟨oc22, od22, .func (PySem.W.fnOf "_law_beyond" "_law_beyond" (defArgs s__law_beyond) (defBody s__law_beyond) (defScope s__law_beyond) .none kV22 dc22 pm22 an22 cd22 ct22), sl22⟩) (c22 : PySem.W.codeIn K cd22 "_law_beyond" = true) (k22 : PySem.W.keepIn K (.ref p22) = true)
    (a23 : PySem.W.nsIn K mainGlobals "law" = some (some (.ref p23))) (l23 : K.lookup p23 = some ⟨oc23, od23, .func (PySem.W.fnOf "law" "law" (defArgs s_law) (defBody s_law) (defScope s_law) .none kV23 dc23 pm23 an23 (.ref cc23) ct23), sl23⟩) (c23 : PySem.W.codeIn K (.ref cc23) "law" = true) (k23 : PySem.W.keepIn K (.ref p23) = true)
    (z_abs : PySem.W.nsIn K mainGlobals "abs" = some none)
    (z_all : PySem.W.nsIn K mainGlobals "all" = some none)
    (z_bool : PySem.W.nsIn K mainGlobals "bool" = some none)
    (z_dict : PySem.W.nsIn K mainGlobals "dict" = some none)
    (z_enumerate : PySem.W.nsIn K mainGlobals "enumerate" = some none)
    (z_int : PySem.W.nsIn K mainGlobals "int" = some none)
    (z_isinstance : PySem.W.nsIn K mainGlobals "isinstance" = some none)
    (z_len : PySem.W.nsIn K mainGlobals "len" = some none)
    (z_list : PySem.W.nsIn K mainGlobals "list" = some none)
    (z_max : PySem.W.nsIn K mainGlobals "max" = some none)
    (z_min : PySem.W.nsIn K mainGlobals "min" = some none)
    (z_range : PySem.W.nsIn K mainGlobals "range" = some none)
    (z_str : PySem.W.nsIn K mainGlobals "str" = some none)
    (z_sum : PySem.W.nsIn K mainGlobals "sum" = some none)
    (z_tuple : PySem.W.nsIn K mainGlobals "tuple" = some none)
    (t23 : h.get? tp23 = some { cls := .none, data := .fields #[] }) (u23 : PySem.W.codeHdIn K cc23 tp23 = true) (v23 : K.lookup tp23 = none)
    (xa_HarbourError : PySem.W.nsIn K mainGlobals "HarbourError" = some (some (.ref C_HarbourError)))
    (xa_BadValue : PySem.W.nsIn K mainGlobals "BadValue" = some (some (.ref C_BadValue)))
    (xa_TooMany : PySem.W.nsIn K mainGlobals "TooMany" = some (some (.ref C_TooMany)))
    (xa_NoStory : PySem.W.nsIn K mainGlobals "NoStory" = some (some (.ref C_NoStory)))
    (xa_Over : PySem.W.nsIn K mainGlobals "Over" = some (some (.ref C_Over)))
    (xa_DeskError : PySem.W.nsIn K mainGlobals "DeskError" = some (some (.ref C_DeskError)))
    (z_super : PySem.W.nsIn K mainGlobals "super" = some none)
    (z_ValueError : PySem.W.nsIn K mainGlobals "ValueError" = some none)
    (x_opq : PySem.W.nsIn K cStatics "thirdparty.any" = some none)
    (x_top : (l.prog.main.scope.names.lookup ("super" : Str)).isSome = false)
    (xL_BadValue : K.lookup C_BadValue = some (excClassObj nm_BadValue q_BadValue C_BadValue N_BadValue bs_BadValue [.ref C_HarbourError, .type "ValueError", .type "Exception", .type "BaseException", .type "object"] true sn_BadValue sub_BadValue ab_BadValue col_BadValue dd_BadValue m0_BadValue m1_BadValue m2_BadValue m3_BadValue m5_BadValue "ValueError.__new__"))
    (xs_BadValue : PySem.W.findIn K (.ref C_BadValue) "__setattr__" = some (some (.builtin "object.__setattr__")))
    (xg_BadValue : PySem.W.findIn K (.ref C_BadValue) "__getattribute__" = some (some (.builtin "BaseException.__getattribute__")))
    (xh_BadValue : PySem.W.findIn K (.ref C_BadValue) "__getattr__" = some none)
    (xf_BadValue : PySem.W.findIn K (.ref C_BadValue) "where" = some none)
    (xk_BadValue : PySem.W.keepIn K (.ref C_BadValue) = true)
    (xb_BadValue : PySem.W.subIn K (.ref C_BadValue) (.type "BaseException") = some true)
    (xv_BadValue : PySem.W.subIn K (.ref C_BadValue) (.type "ValueError") = some true)
    (xt_BadValue : PySem.W.typeIn K (.ref C_BadValue) = some (.type "type"))
    (xd_BadValue : PySem.W.hasDictIn K C_BadValue = true)
    (xm_BadValue : PySem.W.mroIn K C_BadValue (.ref C_BadValue) = some true)
    (xu_BadValue : PySem.W.ks_superIn K C_BadValue C_BadValue "__init__" = some (some (.builtin "ValueError.__init__")))
    (xi_BadValue : PySem.W.findIn K (.ref C_BadValue) "__init__" = some (some (.ref fI_BadValue)))
    (xy_BadValue : PySem.W.typeIn K (.ref fI_BadValue) = some (.type "function"))
    (xn_BadValue : K.lookup fI_BadValue = some ⟨oc_BadValue, od_BadValue, .func (PySem.W.ksFn "__init__" "BadValue.__init__" (PySem.XcM.xcA "where" ⟨6, 17, 6, 21⟩ ⟨6, 23, 6, 28⟩) (PySem.XcM.xcB "where" (Str.ofString "an argument breaks its stated form or bounds") 0 ⟨7, 8, 7, 13⟩ ⟨7, 8, 7, 15⟩ ⟨7, 8, 7, 24⟩ ⟨7, 25, 7, 71⟩ ⟨7, 8, 7, 72⟩ ⟨7, 8, 7, 72⟩ ⟨8, 8, 8, 12⟩ ⟨8, 8, 8, 18⟩ ⟨8, 21, 8, 26⟩ ⟨8, 8, 8, 26⟩) (PySem.XcM.xcS "where") .none .none doc_BadValue pm_BadValue an_BadValue (.ref cda_BadValue) ct_BadValue cc_BadValue), osl_BadValue⟩)
    (xc_BadValue : PySem.W.codeIn K (.ref cda_BadValue) "BadValue.__init__" = true)
    (xo_BadValue : K.lookup cda_BadValue = some ⟨ccl_BadValue, cdd_BadValue, .fields vs_BadValue, ccs_BadValue⟩)
    (xw_BadValue : vs_BadValue[2]? = some (.str file_BadValue tf_BadValue))
    (xx_BadValue : ((l.prog.main.file : Str) == file_BadValue) = true)
    (xz_BadValue : K.lookup cc_BadValue = some ⟨cl_BadValue, cld_BadValue, .cell (some (.ref C_BadValue)), csl_BadValue⟩)
    (e_ha : PySem.W.findIn K (.ref C_BadValue) "__class__" = some (some (.builtin "object.__class__")))
    (e_hn : PySem.W.specialIn K (.builtin "object.__class__") "__get__" = some (some (.builtin "getset_descriptor.__get__")))
    (e_ht : PySem.W.takesIn K (.builtin "object.__class__") = some true)
    (e_hm : PySem.W.mroIn K C_BadValue (.type "object") = some true)
    (e_h1 : PySem.W.subIn K (.ref C_HarbourError) (.type "BaseException") = some true)
    (e_h2 : PySem.W.hasDictIn K C_HarbourError = true)
    (e_h3 : PySem.W.typeIn K (.ref C_HarbourError) = some (.type "type"))
    (e_h4 : PySem.W.subIn K (.ref C_BadValue) (.ref C_HarbourError) = some true)
    (e_kV : PySem.W.kitOne K (.ref C_BadValue) (.type "ValueError") = some true)
    (e_kC : PySem.W.kitOne K (.ref C_BadValue) (.ref C_BadValue) = some true)
    (e_k1 : PySem.W.kitOne K (.ref C_BadValue) (.ref C_TooMany) = some false)
    (e_k2 : PySem.W.kitOne K (.ref C_BadValue) (.ref C_NoStory) = some false)
    (e_k3 : PySem.W.kitOne K (.ref C_BadValue) (.ref C_Over) = some false)
    (e_k4 : PySem.W.kitOne K (.ref C_BadValue) (.ref C_DeskError) = some false)
    (e_kS : PySem.W.kitOne K (.type "str") (.type "str") = some true)
    (r_a : PySem.W.nsIn K mainGlobals "_law_refused" = some (some (.ref gR)))
    (r_l : K.lookup gR = some ⟨ocR, odR, .func (PySem.W.fnOf "_law_refused" "_law_refused" (defArgs s__law_refused) (defBody s__law_refused) (defScope s__law_refused) .none kVR dcR pmR anR cdR ctR), slR⟩)
    (r_c : PySem.W.codeIn K cdR "_law_refused" = true)
    (r_k : PySem.W.keepIn K (.ref gR) = true)
    : LamX.LawAtS l w K (L2.CX l.prog w) 12 63 "script" mg fa h := by
  have e := hfa.symm.trans (PySem.W.mg_of X G a23)
  cases e
  have F0 := fun_mk (st := s_check) l0 c0 k0
  have b0 := F0.binds (ps := ["ok", "where"]) fun _ _ _ _ _ _ us hl => match us, hl with | [_, _], _ => rfl
  have F1 := fun_mk (st := s_in_range) l1 c1 k1
  have b1 := F1.binds (ps := ["n", "low", "high"]) fun _ _ _ _ _ _ us hl => match us, hl with | [_, _, _], _ => rfl
  have F2 := fun_mk (st := s_all_in_range) l2 c2 k2
  have b2 := F2.binds (ps := ["numbers", "low", "high"]) fun _ _ _ _ _ _ us hl => match us, hl with | [_, _, _], _ => rfl
  have F3 := fun_mk (st := s_check_loads) l3 c3 k3
  have b3 := F3.binds (ps := ["loads", "cranes"]) fun _ _ _ _ _ _ us hl => match us, hl with | [_, _], _ => rfl
  have F4 := fun_mk (st := s_stretches) l4 c4 k4
  have b4 := F4.binds (ps := ["loads", "most"]) fun _ _ _ _ _ _ us hl => match us, hl with | [_, _], _ => rfl
  have F5 := fun_mk (st := s_least_most) l5 c5 k5
  have b5 := F5.binds (ps := ["loads", "cranes"]) fun _ _ _ _ _ _ us hl => match us, hl with | [_, _], _ => rfl
  have F6 := fun_mk (st := s_place_of_sum) l6 c6 k6
  have b6 := F6.binds (ps := ["loads", "first", "most"]) fun _ _ _ _ _ _ us hl => match us, hl with | [_, _, _], _ => rfl
  have F7 := fun_mk (st := s_paper_of) l7 c7 k7
  have b7 := F7.binds (ps := ["loads", "cranes", "most"]) fun _ _ _ _ _ _ us hl => match us, hl with | [_, _, _], _ => rfl
  have F8 := fun_mk (st := s_zones) l8 c8 k8
  have b8 := F8.binds (ps := ["loads", "cranes"]) fun _ _ _ _ _ _ us hl => match us, hl with | [_, _], _ => rfl
  have F9 := fun_mk (st := s_zones_ok) l9 c9 k9
  have b9 := F9.binds (ps := ["loads", "cranes", "most", "paper"]) fun _ _ _ _ _ _ us hl => match us, hl with | [_, _, _, _], _ => rfl
  have F10 := fun_mk (st := s__law_cell) l10 c10 k10
  have b10 := F10.binds (ps := ["script", "k"]) fun _ _ _ _ _ _ us hl => match us, hl with | [_, _], _ => rfl
  have F11 := fun_mk (st := s__law_mixed) l11 c11 k11
  have b11 := F11.binds (ps := ["seed", "turn", "many"]) fun _ _ _ _ _ _ us hl => match us, hl with | [_, _, _], _ => rfl
  have F12 := fun_mk (st := s__law_pool) l12 c12 k12
  have b12 := F12.binds (ps := ["script", "k"]) fun _ _ _ _ _ _ us hl => match us, hl with | [_, _], _ => rfl
  have F13 := fun_mk (st := s__law_draw) l13 c13 k13
  have b13 := F13.binds (ps := ["pool", "many"]) fun _ _ _ _ _ _ us hl => match us, hl with | [_, _], _ => rfl
  have F14 := fun_mk (st := s__law_chance) l14 c14 k14
  have b14 := F14.binds (ps := ["pool", "one", "of"]) fun _ _ _ _ _ _ us hl => match us, hl with | [_, _, _], _ => rfl
  have F15 := fun_mk (st := s__law_pick) l15 c15 k15
  have b15 := F15.binds (ps := ["pool", "xs"]) fun _ _ _ _ _ _ us hl => match us, hl with | [_, _], _ => rfl
  have F16 := fun_mk (st := s__law_same) l16 c16 k16
  have b16 := F16.binds (ps := ["got", "due"]) fun _ _ _ _ _ _ us hl => match us, hl with | [_, _], _ => rfl
  have F17 := fun_mk (st := s__law_copy) l17 c17 k17
  have b17 := F17.binds (ps := ["x"]) fun _ _ _ _ _ _ us hl => match us, hl with | [_], _ => rfl
  have F18 := fun_mk (st := s__law_least_most) l18 c18 k18
  have b18 := F18.binds (ps := ["loads", "cranes"]) fun _ _ _ _ _ _ us hl => match us, hl with | [_, _], _ => rfl
  have F19 := fun_mk (st := s__law_due) l19 c19 k19
  have b19 := F19.binds (ps := ["loads", "cranes"]) fun _ _ _ _ _ _ us hl => match us, hl with | [_, _], _ => rfl
  have F20 := fun_mk (st := s__law_loads) l20 c20 k20
  have b20 := F20.binds (ps := ["pool"]) fun _ _ _ _ _ _ us hl => match us, hl with | [_], _ => rfl
  have F21 := fun_mk (st := s__law_parted) l21 c21 k21
  have b21 := F21.binds (ps := ["loads", "cranes"]) fun _ _ _ _ _ _ us hl => match us, hl with | [_, _], _ => rfl
  have F22 := fun_mk (st := s__law_beyond) l22 c22 k22
  have b22 := F22.binds (ps := ["pool", "loads", "cranes"]) fun _ _ _ _ _ _ us hl => match us, hl with | [_, _, _], _ => rfl
  have F23 := fun_mk (st := s_law) l23 c23 k23
  have T : Txt mg := ⟨PySem.W.mg_none_of X G z_abs, PySem.W.mg_none_of X G z_all, PySem.W.mg_none_of X G z_bool, PySem.W.mg_none_of X G z_dict, PySem.W.mg_none_of X G z_enumerate, PySem.W.mg_none_of X G z_int, PySem.W.mg_none_of X G z_isinstance, PySem.W.mg_none_of X G z_len, PySem.W.mg_none_of X G z_list, PySem.W.mg_none_of X G z_max, PySem.W.mg_none_of X G z_min, PySem.W.mg_none_of X G z_range, PySem.W.mg_none_of X G z_str, PySem.W.mg_none_of X G z_sum, PySem.W.mg_none_of X G z_tuple⟩
  have X_BadValue : PySem.XcM.XcTxt l.prog K mg "BadValue" "where" C_BadValue := ⟨PySem.W.mg_of X G xa_BadValue, PySem.W.mg_none_of X G z_super, ⟨_, _, _, _, _, _, _, _, _, _, _, _, _, _, _, xL_BadValue, by first | rfl | (show PySem.HandSPX.refsVE PySem.HandSPX.veTail = true; decide +kernel)⟩, xs_BadValue, xg_BadValue, xh_BadValue, xf_BadValue, xk_BadValue, xb_BadValue, xv_BadValue, xt_BadValue, xd_BadValue, x_opq, xm_BadValue, xu_BadValue, x_top, ⟨by decide, by decide, by decide, by decide, by decide, by decide⟩, ⟨_, _, _, _, _, _, _, _, _, _, _, _, _, _, _, _, _, _, _, _, _, _, _, _, _, _, _, _, _, _, _, _, _, _, xi_BadValue, xy_BadValue, xn_BadValue, xc_BadValue, xo_BadValue, xw_BadValue, xx_BadValue, xz_BadValue, fun _ _ => rfl, fun _ => ⟨_, rfl⟩⟩⟩
  have RT : RefTxt K mg C_BadValue C_HarbourError C_TooMany C_NoStory C_Over C_DeskError := ⟨PySem.W.mg_of X G xa_HarbourError, PySem.W.mg_of X G xa_BadValue, PySem.W.mg_of X G xa_TooMany, PySem.W.mg_of X G xa_NoStory, PySem.W.mg_of X G xa_Over, PySem.W.mg_of X G xa_DeskError, PySem.W.mg_none_of X G z_ValueError, PySem.W.mg_none_of X G z_isinstance, PySem.W.mg_none_of X G z_str, ⟨xg_BadValue, xh_BadValue, xb_BadValue, xd_BadValue, e_ha, e_hn, e_ht, e_hm⟩, ⟨xg_BadValue, xh_BadValue, xb_BadValue, xd_BadValue⟩, xf_BadValue, PySem.W.exm_ref e_h1 e_h2 e_h3 e_h4, e_kV, e_kC, e_k1, e_k2, e_k3, e_k4, e_kS⟩
  have FR := fun_mk (st := s__law_refused) r_l r_c r_k
  have bR := FR.binds (ps := ["ask", "where"]) fun _ _ _ _ _ _ us hl => match us, hl with | [_, _], _ => rfl
  have rf : RefD K mg "_law_refused" "ask" "where" ["ask", "where", "e"] C_BadValue s__law_refused := ⟨⟨gR, _, _, _, _, _, _, _, _, _, PySem.W.mg_of X G r_a, r_k, r_l, r_c, bR⟩, sc__law_refused, rfl, .inl rfl, fun X g cdg q eK em => g__law_refused RT X g cdg q eK em⟩
  refine ⟨PySem.W.fnOf "law" "law" (defArgs s_law) (defBody s_law) (defScope s_law) .none kV23 dc23 pm23 an23 (.ref cc23) ct23, [(cc23, tp23)], spD ⟨K, fun x => if x = ("BadValue" : Str) then C_BadValue else 0, [(tp23, ("law.<locals>.<lambda>" : Str))]⟩ [false] 1 G_law, ?_, ?_, ?_, fun s v => .of_eq rfl, ?_, fun base _ _ tb => ?_⟩
  · intro p hp
    simp only [List.mem_cons, List.not_mem_nil, or_false] at hp
    subst hp
    exact t23
  · intro p hp
    simp only [List.mem_cons, List.not_mem_nil, or_false] at hp
    subst hp
    exact v23
  · intro p hp
    simp only [List.mem_cons, List.not_mem_nil, or_false] at hp
    subst hp
    exact PySem.W.codeHd_of_K X u23
  · intro H a ns hl _ hT hS
    refine law_spT (fun p hp => ?_) hS fun f hf => law_true f hf ns hl
    simp only [List.mem_cons, List.not_mem_nil, or_false] at hp
    subst hp
    exact hT (cc23, tp23) (by simp)
  have cm_BadValue : (⟨K, fun x => if x = ("BadValue" : Str) then C_BadValue else 0, [(tp23, ("law.<locals>.<lambda>" : Str))]⟩ : Gm).cm "BadValue" = C_BadValue := by rfl
  have Y_BadValue : PySem.XcM.XcTxt l.prog K mg "BadValue" "where" ((⟨K, fun x => if x = ("BadValue" : Str) then C_BadValue else 0, [(tp23, ("law.<locals>.<lambda>" : Str))]⟩ : Gm).cm "BadValue") := cm_BadValue.symm ▸ X_BadValue
  have rf2 : RefD K mg "_law_refused" "ask" "where" ["ask", "where", "e"] ((⟨K, fun x => if x = ("BadValue" : Str) then C_BadValue else 0, [(tp23, ("law.<locals>.<lambda>" : Str))]⟩ : Gm).cm "BadValue") s__law_refused := cm_BadValue.symm ▸ rf
  have e0 := f_check (Γ := ⟨K, fun x => if x = ("BadValue" : Str) then C_BadValue else 0, [(tp23, ("law.<locals>.<lambda>" : Str))]⟩) (P := l.prog) (w := w) (base := base) F0 b0 (PySem.W.mg_of X G a0) T Y_BadValue
  have e1 := f_in_range (Γ := ⟨K, fun x => if x = ("BadValue" : Str) then C_BadValue else 0, [(tp23, ("law.<locals>.<lambda>" : Str))]⟩) (P := l.prog) (w := w) (base := base) F1 b1 (PySem.W.mg_of X G a1) T 
  have e2 := f_all_in_range (Γ := ⟨K, fun x => if x = ("BadValue" : Str) then C_BadValue else 0, [(tp23, ("law.<locals>.<lambda>" : Str))]⟩) (P := l.prog) (w := w) (base := base) F2 b2 (PySem.W.mg_of X G a2) T 
  have e3 := f_check_loads (Γ := ⟨K, fun x => if x = ("BadValue" : Str) then C_BadValue else 0, [(tp23, ("law.<locals>.<lambda>" : Str))]⟩) (P := l.prog) (w := w) (base := base) F3 b3 (PySem.W.mg_of X G a3) T e2 e0 e1
  have e4 := f_stretches (Γ := ⟨K, fun x => if x = ("BadValue" : Str) then C_BadValue else 0, [(tp23, ("law.<locals>.<lambda>" : Str))]⟩) (P := l.prog) (w := w) (base := base) F4 b4 (PySem.W.mg_of X G a4) T 
  have e5 := f_least_most (Γ := ⟨K, fun x => if x = ("BadValue" : Str) then C_BadValue else 0, [(tp23, ("law.<locals>.<lambda>" : Str))]⟩) (P := l.prog) (w := w) (base := base) F5 b5 (PySem.W.mg_of X G a5) T e4
  have e6 := f_place_of_sum (Γ := ⟨K, fun x => if x = ("BadValue" : Str) then C_BadValue else 0, [(tp23, ("law.<locals>.<lambda>" : Str))]⟩) (P := l.prog) (w := w) (base := base) F6 b6 (PySem.W.mg_of X G a6) T 
  have e7 := f_paper_of (Γ := ⟨K, fun x => if x = ("BadValue" : Str) then C_BadValue else 0, [(tp23, ("law.<locals>.<lambda>" : Str))]⟩) (P := l.prog) (w := w) (base := base) F7 b7 (PySem.W.mg_of X G a7) T e6
  have e8 := f_zones (Γ := ⟨K, fun x => if x = ("BadValue" : Str) then C_BadValue else 0, [(tp23, ("law.<locals>.<lambda>" : Str))]⟩) (P := l.prog) (w := w) (base := base) F8 b8 (PySem.W.mg_of X G a8) T e3 e5 e7 e4
  have e9 := f_zones_ok (Γ := ⟨K, fun x => if x = ("BadValue" : Str) then C_BadValue else 0, [(tp23, ("law.<locals>.<lambda>" : Str))]⟩) (P := l.prog) (w := w) (base := base) F9 b9 (PySem.W.mg_of X G a9) T e2 e3
  have e10 := f__law_cell (Γ := ⟨K, fun x => if x = ("BadValue" : Str) then C_BadValue else 0, [(tp23, ("law.<locals>.<lambda>" : Str))]⟩) (P := l.prog) (w := w) (base := base) F10 b10 (PySem.W.mg_of X G a10) T 
  have e11 := f__law_mixed (Γ := ⟨K, fun x => if x = ("BadValue" : Str) then C_BadValue else 0, [(tp23, ("law.<locals>.<lambda>" : Str))]⟩) (P := l.prog) (w := w) (base := base) F11 b11 (PySem.W.mg_of X G a11) T 
  have e12 := f__law_pool (Γ := ⟨K, fun x => if x = ("BadValue" : Str) then C_BadValue else 0, [(tp23, ("law.<locals>.<lambda>" : Str))]⟩) (P := l.prog) (w := w) (base := base) F12 b12 (PySem.W.mg_of X G a12) T e10
  have e13 := f__law_draw (Γ := ⟨K, fun x => if x = ("BadValue" : Str) then C_BadValue else 0, [(tp23, ("law.<locals>.<lambda>" : Str))]⟩) (P := l.prog) (w := w) (base := base) F13 b13 (PySem.W.mg_of X G a13) T e11
  have e14 := f__law_chance (Γ := ⟨K, fun x => if x = ("BadValue" : Str) then C_BadValue else 0, [(tp23, ("law.<locals>.<lambda>" : Str))]⟩) (P := l.prog) (w := w) (base := base) F14 b14 (PySem.W.mg_of X G a14) T e13
  have e15 := f__law_pick (Γ := ⟨K, fun x => if x = ("BadValue" : Str) then C_BadValue else 0, [(tp23, ("law.<locals>.<lambda>" : Str))]⟩) (P := l.prog) (w := w) (base := base) F15 b15 (PySem.W.mg_of X G a15) T e13
  have e16 := f__law_same (Γ := ⟨K, fun x => if x = ("BadValue" : Str) then C_BadValue else 0, [(tp23, ("law.<locals>.<lambda>" : Str))]⟩) (P := l.prog) (w := w) (base := base) F16 b16 (PySem.W.mg_of X G a16) T  8
  have e17 := f__law_copy (Γ := ⟨K, fun x => if x = ("BadValue" : Str) then C_BadValue else 0, [(tp23, ("law.<locals>.<lambda>" : Str))]⟩) (P := l.prog) (w := w) (base := base) F17 b17 (PySem.W.mg_of X G a17) T  8
  have e18 := f__law_least_most (Γ := ⟨K, fun x => if x = ("BadValue" : Str) then C_BadValue else 0, [(tp23, ("law.<locals>.<lambda>" : Str))]⟩) (P := l.prog) (w := w) (base := base) F18 b18 (PySem.W.mg_of X G a18) T 
  have e19 := f__law_due (Γ := ⟨K, fun x => if x = ("BadValue" : Str) then C_BadValue else 0, [(tp23, ("law.<locals>.<lambda>" : Str))]⟩) (P := l.prog) (w := w) (base := base) F19 b19 (PySem.W.mg_of X G a19) T e18
  have e20 := f__law_loads (Γ := ⟨K, fun x => if x = ("BadValue" : Str) then C_BadValue else 0, [(tp23, ("law.<locals>.<lambda>" : Str))]⟩) (P := l.prog) (w := w) (base := base) F20 b20 (PySem.W.mg_of X G a20) T e14 e13 e15
  have e21 := f__law_parted (Γ := ⟨K, fun x => if x = ("BadValue" : Str) then C_BadValue else 0, [(tp23, ("law.<locals>.<lambda>" : Str))]⟩) (P := l.prog) (w := w) (base := base) F21 b21 (PySem.W.mg_of X G a21) T e17 e19 e16 e8 e9
  have e22 := f__law_beyond (Γ := ⟨K, fun x => if x = ("BadValue" : Str) then C_BadValue else 0, [(tp23, ("law.<locals>.<lambda>" : Str))]⟩) (P := l.prog) (w := w) (base := base) F22 b22 (PySem.W.mg_of X G a22) T e13
  have ld23 : LamD (⟨K, fun x => if x = ("BadValue" : Str) then C_BadValue else 0, [(tp23, ("law.<locals>.<lambda>" : Str))]⟩ : Gm) mg base "law" cc23 tp23 := ⟨tb (cc23, tp23) (by simp), (by simp; try rfl), (by intro p hp; simp only [List.mem_cons, List.not_mem_nil, or_false] at hp; subst hp; intro _; rfl)⟩
  exact o_law (Γ := ⟨K, fun x => if x = ("BadValue" : Str) then C_BadValue else 0, [(tp23, ("law.<locals>.<lambda>" : Str))]⟩) l23 c23 k23 ld23 rf2 T e22 e13 e19 e20 e21 e12 e16 e8
end
end K
open PySem PySem.W PyProof.Rows in
set_option maxRecDepth 100000 in
set_option maxHeartbeats 0 in
theorem PySem.Challenge.cw_boxharbour_k20_whole_zones_holds : PySem.Challenge.rw_boxharbour_k20_whole_zones.Holds := by
  w_on; o_law; k_head; (case hw => w_witness2)
  k_fill
  refine LamX.walk_ofTs (l := PySem.Challenge.rw_boxharbour_k20_whole_zones) (n := 63) (k := 12) (x := "script") (CX := fun w => L2.CX (PySem.Challenge.rw_boxharbour_k20_whole_zones).prog w) rfl (by decide) rfl ⟨rfl, by decide, by decide⟩ (fun w h Y => Y.1) ?F (fun _ _ _ _ _ h => DL.cx_out h)
  case F =>
    intro w mg fa h Y KX G hmg
    refine' K.all_mk KX G hmg ?a0 ?l0 ?c0 ?k0 ?a1 ?l1 ?c1 ?k1 ?a2 ?l2 ?c2 ?k2 ?a3 ?l3 ?c3 ?k3 ?a4 ?l4 ?c4 ?k4 ?a5 ?l5 ?c5 ?k5 ?a6 ?l6 ?c6 ?k6 ?a7 ?l7 ?c7 ?k7 ?a8 ?l8 ?c8 ?k8 ?a9 ?l9 ?c9 ?k9 ?a10 ?l10 ?c10 ?k10 ?a11 ?l11 ?c11 ?k11 ?a12 ?l12 ?c12 ?k12 ?a13 ?l13 ?c13 ?k13 ?a14 ?l14 ?c14 ?k14 ?a15 ?l15 ?c15 ?k15 ?a16 ?l16 ?c16 ?k16 ?a17 ?l17 ?c17 ?k17 ?a18 ?l18 ?c18 ?k18 ?a19 ?l19 ?c19 ?k19 ?a20 ?l20 ?c20 ?k20 ?a21 ?l21 ?c21 ?k21 ?a22 ?l22 ?c22 ?k22 ?a23 ?l23 ?c23 ?k23 ?z_abs ?z_all ?z_bool ?z_dict ?z_enumerate ?z_int ?z_isinstance ?z_len ?z_list ?z_max ?z_min ?z_range ?z_str ?z_sum ?z_tuple ?t23 ?u23 ?v23 ?xa_HarbourError ?xa_BadValue ?xa_TooMany ?xa_NoStory ?xa_Over ?xa_DeskError ?z_super ?z_ValueError ?x_opq ?x_top ?xL_BadValue ?xs_BadValue ?xg_BadValue ?xh_BadValue ?xf_BadValue ?xk_BadValue ?xb_BadValue ?xv_BadValue ?xt_BadValue ?xd_BadValue ?xm_BadValue ?xu_BadValue ?xi_BadValue ?xy_BadValue ?xn_BadValue ?xc_BadValue ?xo_BadValue ?xw_BadValue ?xx_BadValue ?xz_BadValue ?e_ha ?e_hn ?e_ht ?e_hm ?e_h1 ?e_h2 ?e_h3 ?e_h4 ?e_kV ?e_kC ?e_k1 ?e_k2 ?e_k3 ?e_k4 ?e_kS ?r_a ?r_l ?r_c ?r_k
    (case a0 => k_is)
    (case l0 => k_is)
    (case c0 => k_is)
    (case k0 => k_is)
    (case a1 => k_is)
    (case l1 => k_is)
    (case c1 => k_is)
    (case k1 => k_is)
    (case a2 => k_is)
    (case l2 => k_is)
    (case c2 => k_is)
    (case k2 => k_is)
    (case a3 => k_is)
    (case l3 => k_is)
    (case c3 => k_is)
    (case k3 => k_is)
    (case a4 => k_is)
    (case l4 => k_is)
    (case c4 => k_is)
    (case k4 => k_is)
    (case a5 => k_is)
    (case l5 => k_is)
    (case c5 => k_is)
    (case k5 => k_is)
    (case a6 => k_is)
    (case l6 => k_is)
    (case c6 => k_is)
    (case k6 => k_is)
    (case a7 => k_is)
    (case l7 => k_is)
    (case c7 => k_is)
    (case k7 => k_is)
    (case a8 => k_is)
    (case l8 => k_is)
    (case c8 => k_is)
    (case k8 => k_is)
    (case a9 => k_is)
    (case l9 => k_is)
    (case c9 => k_is)
    (case k9 => k_is)
    (case a10 => k_is)
    (case l10 => k_is)
    (case c10 => k_is)
    (case k10 => k_is)
    (case a11 => k_is)
    (case l11 => k_is)
    (case c11 => k_is)
    (case k11 => k_is)
    (case a12 => k_is)
    (case l12 => k_is)
    (case c12 => k_is)
    (case k12 => k_is)
    (case a13 => k_is)
    (case l13 => k_is)
    (case c13 => k_is)
    (case k13 => k_is)
    (case a14 => k_is)
    (case l14 => k_is)
    (case c14 => k_is)
    (case k14 => k_is)
    (case a15 => k_is)
    (case l15 => k_is)
    (case c15 => k_is)
    (case k15 => k_is)
    (case a16 => k_is)
    (case l16 => k_is)
    (case c16 => k_is)
    (case k16 => k_is)
    (case a17 => k_is)
    (case l17 => k_is)
    (case c17 => k_is)
    (case k17 => k_is)
    (case a18 => k_is)
    (case l18 => k_is)
    (case c18 => k_is)
    (case k18 => k_is)
    (case a19 => k_is)
    (case l19 => k_is)
    (case c19 => k_is)
    (case k19 => k_is)
    (case a20 => k_is)
    (case l20 => k_is)
    (case c20 => k_is)
    (case k20 => k_is)
    (case a21 => k_is)
    (case l21 => k_is)
    (case c21 => k_is)
    (case k21 => k_is)
    (case a22 => k_is)
    (case l22 => k_is)
    (case c22 => k_is)
    (case k22 => k_is)
    (case a23 => k_is)
    (case l23 => k_is)
    (case c23 => k_is)
    (case k23 => k_is)
    (case z_abs => k_is)
    (case z_all => k_is)
    (case z_bool => k_is)
    (case z_dict => k_is)
    (case z_enumerate => k_is)
    (case z_int => k_is)
    (case z_isinstance => k_is)
    (case z_len => k_is)
    (case z_list => k_is)
    (case z_max => k_is)
    (case z_min => k_is)
    (case z_range => k_is)
    (case z_str => k_is)
    (case z_sum => k_is)
    (case z_tuple => k_is)
    (case t23 => exact PySem.W.km_tabs_of Y _ (by first | exact List.mem_cons_self .. | simp))
    (case u23 => first | rfl | kernel_rfl)
    (case v23 => first | rfl | kernel_rfl)
    (case xa_HarbourError => k_is)
    (case xa_BadValue => k_is)
    (case xa_TooMany => k_is)
    (case xa_NoStory => k_is)
    (case xa_Over => k_is)
    (case xa_DeskError => k_is)
    (case z_super => k_is)
    (case z_ValueError => k_is)
    (case x_opq => k_is)
    (case x_top => decide +kernel)
    (case xL_BadValue => k_is)
    (case xs_BadValue => k_is)
    (case xg_BadValue => k_is)
    (case xh_BadValue => k_is)
    (case xf_BadValue => k_is)
    (case xk_BadValue => k_is)
    (case xb_BadValue => k_is)
    (case xv_BadValue => k_is)
    (case xt_BadValue => k_is)
    (case xd_BadValue => k_is)
    (case xm_BadValue => k_is)
    (case xu_BadValue => first | ks_is | rfl | kernel_rfl)
    (case xi_BadValue => k_is)
    (case xy_BadValue => k_is)
    (case xn_BadValue => k_is)
    (case xc_BadValue => k_is)
    (case xo_BadValue => k_is)
    (case xw_BadValue => rfl)
    (case xx_BadValue => decide +kernel)
    (case xz_BadValue => k_is)
    (case e_ha => k_is)
    (case e_hn => k_is)
    (case e_ht => k_is)
    (case e_hm => k_is)
    (case e_h1 => k_is)
    (case e_h2 => k_is)
    (case e_h3 => k_is)
    (case e_h4 => k_is)
    (case e_kV => first | k_is | rfl | kernel_rfl)
    (case e_kC => first | k_is | rfl | kernel_rfl)
    (case e_k1 => first | k_is | rfl | kernel_rfl)
    (case e_k2 => first | k_is | rfl | kernel_rfl)
    (case e_k3 => first | k_is | rfl | kernel_rfl)
    (case e_k4 => first | k_is | rfl | kernel_rfl)
    (case e_kS => first | k_is | rfl | kernel_rfl)
    (case r_a => k_is)
    (case r_l => k_is)
    (case r_c => k_is)
    (case r_k => k_is)

