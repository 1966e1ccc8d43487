import PyProof.Rows.All
import Wide.All
import OpenK.AllK
import Wide.FinOn
import HandS.ForMost
import HandS.ForExc
import KE.SortData
import KE.SortKeyHeap
import HandS.SortKw
import HandS.ExcCtx
import HandS.HotCalls
import HandS.SuiteRaise
import KE.KIndexOf
import HandS.NestedK
import HandS.IsInst
import HandS.More
import HandS.Conv
import HandS.Flow
import HandS.Zip
import HandS.TupAny
import HandS.TupLe
import HandS.Text
import HandS.Wide
import HandS.ExcOwn
import HandS.ExcIs
import KE.GoesEnum
import HandS.Iter
import HandS.EndOwn
import PySem.Challenge.RW_modulewood_k13_filled_back
set_option Elab.async false
set_option linter.all false
set_option maxRecDepth 100000
namespace MW
open L2 PyProof.Rows PySem.Spec PySem
/-! ### data -/
inductive D where
  | non | bl (b : Bool) | int (i : Int) | str (x : Str)
  | tup (l : List D) | lst (l : List D) | scr (l : List D)
  | dk (l : List (Key × D)) | dt (l : List (List Key × D))
  | obj (c : Nat) (l : List (Str × D))
  | clo (g : Nat) (ws : List D)
  | kt (ks : List Key)
/-- a value that may be owned: s = shared from now on, never changed -/
inductive OD where
  | s (d : D)
  | ol (l : List OD)
  | ot (l : List OD)
  | odk (l : List (Key × OD))
  | odt (l : List (List Key × OD))
  | oo (c : Nat) (l : List (Str × OD))
mutual
def OD.toD : OD → D
  | .s d => d
  | .ol l => .lst (OD.toDs l)
  | .ot l => .tup (OD.toDs l)
  | .odk l => .dk (OD.toDk l)
  | .odt l => .dt (OD.toDt l)
  | .oo c l => .obj c (OD.toDf l)
def OD.toDs : List OD → List D
  | [] => []
  | o :: l => o.toD :: OD.toDs l
def OD.toDk : List (Key × OD) → List (Key × D)
  | [] => []
  | (k, o) :: l => (k, o.toD) :: OD.toDk l
def OD.toDt : List (List Key × OD) → List (List Key × D)
  | [] => []
  | (k, o) :: l => (k, o.toD) :: OD.toDt l
def OD.toDf : List (Str × OD) → List (Str × D)
  | [] => []
  | (k, o) :: l => (k, o.toD) :: OD.toDf l
end
/-- the function that the running def was handed, if one: at f, its code object at co; vs: what its captured cells hold -/
structure CloR where
  on : Bool
  f : Addr
  co : Addr
  g : Nat
  vs : List V
  fo : Heap → Prop
  q : Str
def CloR.off : CloR := ⟨false, 0, 0, 0, [], fun _ => False, ""⟩
/-- where the classes stand -/
structure RC where
  K : PySem.W.Frag
  cl : Nat → Addr
  clo : CloR
  /-- the tables of code objects: each one's address, the full name that its code objects bear, that name's last part -/
  tabs : List (Addr × Str × Str)
mutual
def RS (c : RC) (G : Hp) : D → V → Prop
  | .non, v => v = .non
  | .bl b, v => v = .bl b
  | .int i, v => v = .int i
  | .str x, v => v = .str x
  | .tup l, v => ∃ a xs, v = .ref a ∧ SqT c.K G a xs ∧ RSL c G l xs
  | .lst l, v => ∃ a xs, v = .ref a ∧ Rd G a (.lst xs) ∧ RSL c G l xs
  | .scr l, v => ∃ a xs, v = .ref a ∧ SqL c.K G a xs ∧ RSL c G l xs
  | .dk l, v => ∃ a kvs, v = .ref a ∧ Rd G a (.dK kvs) ∧ RSK c G l kvs
  | .dt l, v => ∃ a kvs, v = .ref a ∧ Rd G a (.dT kvs) ∧ RST c G l kvs
  | .obj _ l, v => ∃ a fs o, v = .ref a ∧ G a = some (.frz o (.tup (fs.map fun (p : Str × V) => p.2))) ∧ o.dict = none ∧ RSF c G l fs
  | .clo g ws, v => c.clo.on = true ∧ g = c.clo.g ∧ v = .ref c.clo.f ∧ G c.clo.f = some (.ext c.clo.fo) ∧ G c.clo.co = some (LamX.CodeO c.clo.co c.clo.q) ∧ RSL c G ws c.clo.vs
  | .kt ks, v => ∃ a, v = .ref a ∧ G a = some (.tup (ks.map kV))
def RSL (c : RC) (G : Hp) : List D → List V → Prop
  | [], xs => xs = []
  | d :: l, xs => ∃ x r, xs = x :: r ∧ RS c G d x ∧ RSL c G l r
def RSK (c : RC) (G : Hp) : List (Key × D) → List (Key × V) → Prop
  | [], xs => xs = []
  | (k, d) :: l, xs => ∃ x r, xs = (k, x) :: r ∧ RS c G d x ∧ RSK c G l r
def RST (c : RC) (G : Hp) : List (List Key × D) → List (List Key × V) → Prop
  | [], xs => xs = []
  | (k, d) :: l, xs => ∃ x r, xs = (k, x) :: r ∧ RS c G d x ∧ RST c G l r
def RSF (c : RC) (G : Hp) : List (Str × D) → List (Str × V) → Prop
  | [], xs => xs = []
  | (k, d) :: l, xs => ∃ x r, xs = (k, x) :: r ∧ RS c G d x ∧ RSF c G l r
end
def isDict : HO → Prop
  | .dK _ => True
  | .dT _ => True
  | _ => False
/-- all of G stands in G', but that a dict may be locked meanwhile -/
def Gle (G G' : Hp) : Prop := ∀ a o, G a = some o → G' a = some o ∨ (isDict o ∧ ∃ ob, G' a = some (.frz ob o))
theorem Gle.of {G G' : Hp} (h : ∀ a o, G a = some o → G' a = some o) : Gle G G' := fun a o q => .inl (h a o q)
theorem Gle.ex {G G' : Hp} (g : Gle G G') {a : Addr} {o : HO} (h : G a = some o) (n : ¬ isDict o) : G' a = some o := (g a o h).elim id fun z => absurd z.1 n
theorem Gle.some {G G' : Hp} (g : Gle G G') {a : Addr} (h : G' a = none) : G a = none := by
  cases q : G a with
  | none => rfl
  | some o => rcases g a o q with z | ⟨_, _, z⟩ <;> rw [h] at z <;> cases z
theorem Gle.refl (G : Hp) : Gle G G := fun _ _ h => .inl h
theorem Gle.trans {A B C : Hp} (x : Gle A B) (y : Gle B C) : Gle A C := fun a o h => by
  rcases x a o h with h | ⟨n, ob, h⟩
  · exact y a o h
  · exact .inr ⟨n, ob, y.ex h fun z => z⟩
theorem Rd.gle {G G' : Hp} {a : Addr} {u : HO} (g : Gle G G') (h : Rd G a u) : Rd G' a u := by
  rcases h with h | ⟨o, h⟩
  · rcases g _ _ h with z | ⟨_, ob, z⟩
    · exact .inl z
    · exact .inr ⟨ob, z⟩
  · exact .inr ⟨o, g.ex h fun z => z⟩
theorem SqL.gle {K : PySem.W.Frag} {G G' : Hp} {a : Addr} {xs : List V} (g : Gle G G') (h : SqL K G a xs) : SqL K G' a xs := by
  rcases h with (h | ⟨o, h⟩) | h
  · exact .inl (.inl (g.ex h fun z => z))
  · exact .inl (.inr ⟨o, g.ex h fun z => z⟩)
  · exact .inr h
theorem SqT.gle {K : PySem.W.Frag} {G G' : Hp} {a : Addr} {xs : List V} (g : Gle G G') (h : SqT K G a xs) : SqT K G' a xs := by
  rcases h with (h | ⟨o, h⟩) | h
  · exact .inl (.inl (g.ex h fun z => z))
  · exact .inl (.inr ⟨o, g.ex h fun z => z⟩)
  · exact .inr h
mutual
/-- no function within -/
def D.noC : D → Bool
  | .tup l => D.noCs l
  | .lst l => D.noCs l
  | .scr l => D.noCs l
  | .dk l => D.noCk l
  | .dt l => D.noCt l
  | .obj _ l => D.noCf l
  | .clo _ _ => false
  | _ => true
def D.noCs : List D → Bool
  | [] => true
  | d :: l => d.noC && D.noCs l
def D.noCk : List (Key × D) → Bool
  | [] => true
  | (_, d) :: l => d.noC && D.noCk l
def D.noCt : List (List Key × D) → Bool
  | [] => true
  | (_, d) :: l => d.noC && D.noCt l
def D.noCf : List (Str × D) → Bool
  | [] => true
  | (_, d) :: l => d.noC && D.noCf l
end
section
variable {c : RC} {G G' : Hp}
mutual
theorem RS.mono (g : Gle G G') : ∀ {d : D} {v : V}, RS c G d v → RS c G' d v
  | .non, v, h => by simpa [RS] using h
  | .bl b, v, h => by simpa [RS] using h
  | .int b, v, h => by simpa [RS] using h
  | .str b, v, h => by simpa [RS] using h
  | .tup l, v, h => by
    obtain ⟨a, xs, e, q, r⟩ := (by simpa [RS] using h : ∃ a xs, v = .ref a ∧ SqT c.K G a xs ∧ RSL c G l xs)
    simp only [RS]; exact ⟨a, xs, e, SqT.gle g q, RSL.mono g r⟩
  | .lst l, v, h => by
    obtain ⟨a, xs, e, q, r⟩ := (by simpa only [RS] using h : ∃ a xs, v = .ref a ∧ Rd G a (.lst xs) ∧ RSL c G l xs)
    simp only [RS]; exact ⟨a, xs, e, Rd.gle g q, RSL.mono g r⟩
  | .scr l, v, h => by
    obtain ⟨a, xs, e, q, r⟩ := (by simpa only [RS] using h : ∃ a xs, v = .ref a ∧ SqL c.K G a xs ∧ RSL c G l xs)
    simp only [RS]; exact ⟨a, xs, e, SqL.gle g q, RSL.mono g r⟩
  | .dk l, v, h => by
    obtain ⟨a, xs, e, q, r⟩ := (by simpa only [RS] using h : ∃ a xs, v = .ref a ∧ Rd G a (.dK xs) ∧ RSK c G l xs)
    simp only [RS]; exact ⟨a, xs, e, Rd.gle g q, RSK.mono g r⟩
  | .dt l, v, h => by
    obtain ⟨a, xs, e, q, r⟩ := (by simpa only [RS] using h : ∃ a xs, v = .ref a ∧ Rd G a (.dT xs) ∧ RST c G l xs)
    simp only [RS]; exact ⟨a, xs, e, Rd.gle g q, RST.mono g r⟩
  | .obj k l, v, h => by
    obtain ⟨a, fs, o, e, q, hd, r⟩ := (by simpa only [RS] using h : ∃ a fs o, v = .ref a ∧ G a = some (.frz o (.tup (fs.map fun (p : Str × V) => p.2))) ∧ o.dict = none ∧ RSF c G l fs)
    simp only [RS]; exact ⟨a, fs, o, e, g.ex q (fun z => z), hd, RSF.mono g r⟩
  | .clo k ws, v, h => by
    obtain ⟨h1, h2, h3, h4, h5, r⟩ := (by simpa only [RS] using h : c.clo.on = true ∧ k = c.clo.g ∧ v = .ref c.clo.f ∧ G c.clo.f = some (.ext c.clo.fo) ∧ G c.clo.co = some (LamX.CodeO c.clo.co c.clo.q) ∧ RSL c G ws c.clo.vs)
    simp only [RS]; exact ⟨h1, h2, h3, g.ex h4 (fun z => z), g.ex h5 (fun z => z), RSL.mono g r⟩
  | .kt ks, v, h => by
    obtain ⟨a, e, q⟩ := (by simpa only [RS] using h : ∃ a, v = .ref a ∧ G a = some (.tup (ks.map kV)))
    simp only [RS]; exact ⟨a, e, g.ex q fun z => z⟩
theorem RSL.mono (g : Gle G G') : ∀ {l : List D} {xs : List V}, RSL c G l xs → RSL c G' l xs
  | [], xs, h => by simpa [RSL] using h
  | d :: l, xs, h => by
    obtain ⟨x, r, e, p, q⟩ := (by simpa only [RSL] using h : ∃ x r, xs = x :: r ∧ RS c G d x ∧ RSL c G l r)
    simp only [RSL]; exact ⟨x, r, e, RS.mono g p, RSL.mono g q⟩
theorem RSK.mono (g : Gle G G') : ∀ {l : List (Key × D)} {xs : List (Key × V)}, RSK c G l xs → RSK c G' l xs
  | [], xs, h => by simpa [RSK] using h
  | (k, d) :: l, xs, h => by
    obtain ⟨x, r, e, p, q⟩ := (by simpa only [RSK] using h : ∃ x r, xs = (k, x) :: r ∧ RS c G d x ∧ RSK c G l r)
    simp only [RSK]; exact ⟨x, r, e, RS.mono g p, RSK.mono g q⟩
theorem RST.mono (g : Gle G G') : ∀ {l : List (List Key × D)} {xs : List (List Key × V)}, RST c G l xs → RST c G' l xs
  | [], xs, h => by simpa [RST] using h
  | (k, d) :: l, xs, h => by
    obtain ⟨x, r, e, p, q⟩ := (by simpa only [RST] using h : ∃ x r, xs = (k, x) :: r ∧ RS c G d x ∧ RST c G l r)
    simp only [RST]; exact ⟨x, r, e, RS.mono g p, RST.mono g q⟩
theorem RSF.mono (g : Gle G G') : ∀ {l : List (Str × D)} {xs : List (Str × V)}, RSF c G l xs → RSF c G' l xs
  | [], xs, h => by simpa [RSF] using h
  | (k, d) :: l, xs, h => by
    obtain ⟨x, r, e, p, q⟩ := (by simpa only [RSF] using h : ∃ x r, xs = (k, x) :: r ∧ RS c G d x ∧ RSF c G l r)
    simp only [RSF]; exact ⟨x, r, e, RS.mono g p, RSF.mono g q⟩
end
end
section
variable {c c' : RC} {G : Hp}
mutual
/-- what holds no function is told alike by both -/
theorem RS.re (k : c.K = c'.K) : ∀ {d : D} {v : V}, d.noC = true → RS c G d v → RS c' G d v
  | .non, v, _, h => by simpa [RS] using h
  | .bl b, v, _, h => by simpa [RS] using h
  | .int b, v, _, h => by simpa [RS] using h
  | .str b, v, _, h => by simpa [RS] using h
  | .tup l, v, n, h => by
    simp only [RS] at h ⊢
    simp only [D.noC] at n
    obtain ⟨a, xs, e, q, r⟩ := h
    exact ⟨a, xs, e, k ▸ q, RSL.re k n r⟩
  | .lst l, v, n, h => by
    simp only [RS] at h ⊢
    simp only [D.noC] at n
    obtain ⟨a, xs, e, q, r⟩ := h
    exact ⟨a, xs, e, q, RSL.re k n r⟩
  | .scr l, v, n, h => by
    simp only [RS] at h ⊢
    simp only [D.noC] at n
    obtain ⟨a, xs, e, q, r⟩ := h
    exact ⟨a, xs, e, k ▸ q, RSL.re k n r⟩
  | .dk l, v, n, h => by
    simp only [RS] at h ⊢
    simp only [D.noC] at n
    obtain ⟨a, xs, e, q, r⟩ := h
    exact ⟨a, xs, e, q, RSK.re k n r⟩
  | .dt l, v, n, h => by
    simp only [RS] at h ⊢
    simp only [D.noC] at n
    obtain ⟨a, xs, e, q, r⟩ := h
    exact ⟨a, xs, e, q, RST.re k n r⟩
  | .obj j l, v, n, h => by
    simp only [RS] at h ⊢
    simp only [D.noC] at n
    obtain ⟨a, fs, o, e, q, hd, r⟩ := h
    exact ⟨a, fs, o, e, q, hd, RSF.re k n r⟩
  | .clo g ws, v, n, h => by simp only [D.noC] at n; cases n
  | .kt ks, v, n, h => by simpa only [RS] using h
theorem RSL.re (k : c.K = c'.K) : ∀ {l : List D} {xs : List V}, D.noCs l = true → RSL c G l xs → RSL c' G l xs
  | [], xs, _, h => by simpa [RSL] using h
  | d :: l, xs, n, h => by
    simp only [RSL] at h ⊢
    simp only [D.noCs, Bool.and_eq_true] at n
    obtain ⟨x, r, e, p, q⟩ := h
    exact ⟨x, r, e, RS.re k n.1 p, RSL.re k n.2 q⟩
theorem RSK.re (k : c.K = c'.K) : ∀ {l : List (Key × D)} {xs : List (Key × V)}, D.noCk l = true → RSK c G l xs → RSK c' G l xs
  | [], xs, _, h => by simpa [RSK] using h
  | (y, d) :: l, xs, n, h => by
    simp only [RSK] at h ⊢
    simp only [D.noCk, Bool.and_eq_true] at n
    obtain ⟨x, r, e, p, q⟩ := h
    exact ⟨x, r, e, RS.re k n.1 p, RSK.re k n.2 q⟩
theorem RST.re (k : c.K = c'.K) : ∀ {l : List (List Key × D)} {xs : List (List Key × V)}, D.noCt l = true → RST c G l xs → RST c' G l xs
  | [], xs, _, h => by simpa [RST] using h
  | (y, d) :: l, xs, n, h => by
    simp only [RST] at h ⊢
    simp only [D.noCt, Bool.and_eq_true] at n
    obtain ⟨x, r, e, p, q⟩ := h
    exact ⟨x, r, e, RS.re k n.1 p, RST.re k n.2 q⟩
theorem RSF.re (k : c.K = c'.K) : ∀ {l : List (Str × D)} {xs : List (Str × V)}, D.noCf l = true → RSF c G l xs → RSF c' G l xs
  | [], xs, _, h => by simpa [RSF] using h
  | (y, d) :: l, xs, n, h => by
    simp only [RSF] at h ⊢
    simp only [D.noCf, Bool.and_eq_true] at n
    obtain ⟨x, r, e, p, q⟩ := h
    exact ⟨x, r, e, RS.re k n.1 p, RSF.re k n.2 q⟩
end
end
end MW
namespace MW
open L2 PyProof.Rows PySem.Spec PySem
mutual
/-- od is told by v; F: the addresses of its owned nodes -/
def RO (c : RC) (H G : Hp) : OD → V → List Addr → Prop
  | .s d, v, F => RS c G d v ∧ F = []
  | .ol l, v, F => ∃ a xs F1, v = .ref a ∧ H a = some (.lst xs) ∧ ROL c H G l xs F1 ∧ F = a :: F1
  | .ot l, v, F => ∃ a xs F1, v = .ref a ∧ H a = some (.tup xs) ∧ ROL c H G l xs F1 ∧ F = a :: F1
  | .odk l, v, F => ∃ a kvs F1, v = .ref a ∧ H a = some (.dK kvs) ∧ ROK c H G l kvs F1 ∧ F = a :: F1
  | .odt l, v, F => ∃ a kvs F1, v = .ref a ∧ H a = some (.dT kvs) ∧ ROT c H G l kvs F1 ∧ F = a :: F1
  | .oo _ _, _, _ => False
def ROL (c : RC) (H G : Hp) : List OD → List V → List Addr → Prop
  | [], xs, F => xs = [] ∧ F = []
  | d :: l, xs, F => ∃ x r F1 F2, xs = x :: r ∧ F = F1 ++ F2 ∧ RO c H G d x F1 ∧ ROL c H G l r F2
def ROK (c : RC) (H G : Hp) : List (Key × OD) → List (Key × V) → List Addr → Prop
  | [], xs, F => xs = [] ∧ F = []
  | (k, d) :: l, xs, F => ∃ x r F1 F2, xs = (k, x) :: r ∧ F = F1 ++ F2 ∧ RO c H G d x F1 ∧ ROK c H G l r F2
def ROT (c : RC) (H G : Hp) : List (List Key × OD) → List (List Key × V) → List Addr → Prop
  | [], xs, F => xs = [] ∧ F = []
  | (k, d) :: l, xs, F => ∃ x r F1 F2, xs = (k, x) :: r ∧ F = F1 ++ F2 ∧ RO c H G d x F1 ∧ ROT c H G l r F2
def ROF (c : RC) (H G : Hp) : List (Str × OD) → List (Str × V) → List Addr → Prop
  | [], xs, F => xs = [] ∧ F = []
  | (k, d) :: l, xs, F => ∃ x r F1 F2, xs = (k, x) :: r ∧ F = F1 ++ F2 ∧ RO c H G d x F1 ∧ ROF c H G l r F2
end
def AgreeOn (F : List Addr) (H H' : Hp) : Prop := ∀ a, a ∈ F → ∀ o, H a = some o → H' a = some o
section
variable {c : RC} {G G' H H' : Hp}
mutual
theorem RO.mono (g : Gle G G') : ∀ {d : OD} {v : V} {F : List Addr}, AgreeOn F H H' → RO c H G d v F → RO c H' G' d v F
  | .s d, v, F, _, h => by
    simp only [RO] at h ⊢; exact ⟨RS.mono g h.1, h.2⟩
  | .ol l, v, F, e, h => by
    simp only [RO] at h ⊢
    obtain ⟨a, xs, F1, rfl, q, r, rfl⟩ := h
    exact ⟨a, xs, F1, rfl, e a (List.mem_cons_self ..) _ q, ROL.mono g (fun b hb => e b (List.mem_cons_of_mem _ hb)) r, rfl⟩
  | .ot l, v, F, e, h => by
    simp only [RO] at h ⊢
    obtain ⟨a, xs, F1, rfl, q, r, rfl⟩ := h
    exact ⟨a, xs, F1, rfl, e a (List.mem_cons_self ..) _ q, ROL.mono g (fun b hb => e b (List.mem_cons_of_mem _ hb)) r, rfl⟩
  | .odk l, v, F, e, h => by
    simp only [RO] at h ⊢
    obtain ⟨a, xs, F1, rfl, q, r, rfl⟩ := h
    exact ⟨a, xs, F1, rfl, e a (List.mem_cons_self ..) _ q, ROK.mono g (fun b hb => e b (List.mem_cons_of_mem _ hb)) r, rfl⟩
  | .odt l, v, F, e, h => by
    simp only [RO] at h ⊢
    obtain ⟨a, xs, F1, rfl, q, r, rfl⟩ := h
    exact ⟨a, xs, F1, rfl, e a (List.mem_cons_self ..) _ q, ROT.mono g (fun b hb => e b (List.mem_cons_of_mem _ hb)) r, rfl⟩
  | .oo k l, v, F, e, h => by simp [RO] at h
theorem ROL.mono (g : Gle G G') : ∀ {l : List OD} {xs : List V} {F : List Addr}, AgreeOn F H H' → ROL c H G l xs F → ROL c H' G' l xs F
  | [], xs, F, _, h => by simpa only [ROL] using h
  | d :: l, xs, F, e, h => by
    simp only [ROL] at h ⊢
    obtain ⟨x, r, F1, F2, rfl, rfl, p, q⟩ := h
    exact ⟨x, r, F1, F2, rfl, rfl, RO.mono g (fun b hb => e b (List.mem_append_left _ hb)) p, ROL.mono g (fun b hb => e b (List.mem_append_right _ hb)) q⟩
theorem ROK.mono (g : Gle G G') : ∀ {l : List (Key × OD)} {xs : List (Key × V)} {F : List Addr}, AgreeOn F H H' → ROK c H G l xs F → ROK c H' G' l xs F
  | [], xs, F, _, h => by simpa only [ROK] using h
  | (k, d) :: l, xs, F, e, h => by
    simp only [ROK] at h ⊢
    obtain ⟨x, r, F1, F2, rfl, rfl, p, q⟩ := h
    exact ⟨x, r, F1, F2, rfl, rfl, RO.mono g (fun b hb => e b (List.mem_append_left _ hb)) p, ROK.mono g (fun b hb => e b (List.mem_append_right _ hb)) q⟩
theorem ROT.mono (g : Gle G G') : ∀ {l : List (List Key × OD)} {xs : List (List Key × V)} {F : List Addr}, AgreeOn F H H' → ROT c H G l xs F → ROT c H' G' l xs F
  | [], xs, F, _, h => by simpa only [ROT] using h
  | (k, d) :: l, xs, F, e, h => by
    simp only [ROT] at h ⊢
    obtain ⟨x, r, F1, F2, rfl, rfl, p, q⟩ := h
    exact ⟨x, r, F1, F2, rfl, rfl, RO.mono g (fun b hb => e b (List.mem_append_left _ hb)) p, ROT.mono g (fun b hb => e b (List.mem_append_right _ hb)) q⟩
theorem ROF.mono (g : Gle G G') : ∀ {l : List (Str × OD)} {xs : List (Str × V)} {F : List Addr}, AgreeOn F H H' → ROF c H G l xs F → ROF c H' G' l xs F
  | [], xs, F, _, h => by simpa only [ROF] using h
  | (k, d) :: l, xs, F, e, h => by
    simp only [ROF] at h ⊢
    obtain ⟨x, r, F1, F2, rfl, rfl, p, q⟩ := h
    exact ⟨x, r, F1, F2, rfl, rfl, RO.mono g (fun b hb => e b (List.mem_append_left _ hb)) p, ROF.mono g (fun b hb => e b (List.mem_append_right _ hb)) q⟩
end
mutual
/-- sealing: where the owned nodes stand in G', the value is shared data -/
theorem RO.share (g : Gle G G') : ∀ {d : OD} {v : V} {F : List Addr}, AgreeOn F H G' → RO c H G d v F → RS c G' d.toD v
  | .s d, v, F, _, h => by
    simp only [RO, OD.toD] at h ⊢; exact RS.mono g h.1
  | .ol l, v, F, e, h => by
    simp only [RO, OD.toD, RS] at h ⊢
    obtain ⟨a, xs, F1, rfl, q, r, rfl⟩ := h
    exact ⟨a, xs, rfl, .inl (e a (List.mem_cons_self ..) _ q), ROL.share g (fun b hb => e b (List.mem_cons_of_mem _ hb)) r⟩
  | .ot l, v, F, e, h => by
    simp only [RO, OD.toD, RS] at h ⊢
    obtain ⟨a, xs, F1, rfl, q, r, rfl⟩ := h
    exact ⟨a, xs, rfl, SqT.of (e a (List.mem_cons_self ..) _ q), ROL.share g (fun b hb => e b (List.mem_cons_of_mem _ hb)) r⟩
  | .odk l, v, F, e, h => by
    simp only [RO, OD.toD, RS] at h ⊢
    obtain ⟨a, xs, F1, rfl, q, r, rfl⟩ := h
    exact ⟨a, xs, rfl, .inl (e a (List.mem_cons_self ..) _ q), ROK.share g (fun b hb => e b (List.mem_cons_of_mem _ hb)) r⟩
  | .odt l, v, F, e, h => by
    simp only [RO, OD.toD, RS] at h ⊢
    obtain ⟨a, xs, F1, rfl, q, r, rfl⟩ := h
    exact ⟨a, xs, rfl, .inl (e a (List.mem_cons_self ..) _ q), ROT.share g (fun b hb => e b (List.mem_cons_of_mem _ hb)) r⟩
  | .oo k l, v, F, e, h => by simp [RO] at h
theorem ROL.share (g : Gle G G') : ∀ {l : List OD} {xs : List V} {F : List Addr}, AgreeOn F H G' → ROL c H G l xs F → RSL c G' (OD.toDs l) xs
  | [], xs, F, _, h => by simp only [ROL, OD.toDs, RSL] at h ⊢; exact h.1
  | d :: l, xs, F, e, h => by
    simp only [ROL, OD.toDs, RSL] at h ⊢
    obtain ⟨x, r, F1, F2, rfl, rfl, p, q⟩ := h
    exact ⟨x, r, rfl, RO.share g (fun b hb => e b (List.mem_append_left _ hb)) p, ROL.share g (fun b hb => e b (List.mem_append_right _ hb)) q⟩
theorem ROK.share (g : Gle G G') : ∀ {l : List (Key × OD)} {xs : List (Key × V)} {F : List Addr}, AgreeOn F H G' → ROK c H G l xs F → RSK c G' (OD.toDk l) xs
  | [], xs, F, _, h => by simp only [ROK, OD.toDk, RSK] at h ⊢; exact h.1
  | (k, d) :: l, xs, F, e, h => by
    simp only [ROK, OD.toDk, RSK] at h ⊢
    obtain ⟨x, r, F1, F2, rfl, rfl, p, q⟩ := h
    exact ⟨x, r, rfl, RO.share g (fun b hb => e b (List.mem_append_left _ hb)) p, ROK.share g (fun b hb => e b (List.mem_append_right _ hb)) q⟩
theorem ROT.share (g : Gle G G') : ∀ {l : List (List Key × OD)} {xs : List (List Key × V)} {F : List Addr}, AgreeOn F H G' → ROT c H G l xs F → RST c G' (OD.toDt l) xs
  | [], xs, F, _, h => by simp only [ROT, OD.toDt, RST] at h ⊢; exact h.1
  | (k, d) :: l, xs, F, e, h => by
    simp only [ROT, OD.toDt, RST] at h ⊢
    obtain ⟨x, r, F1, F2, rfl, rfl, p, q⟩ := h
    exact ⟨x, r, rfl, RO.share g (fun b hb => e b (List.mem_append_left _ hb)) p, ROT.share g (fun b hb => e b (List.mem_append_right _ hb)) q⟩
theorem ROF.share (g : Gle G G') : ∀ {l : List (Str × OD)} {xs : List (Str × V)} {F : List Addr}, AgreeOn F H G' → ROF c H G l xs F → RSF c G' (OD.toDf l) xs
  | [], xs, F, _, h => by simp only [ROF, OD.toDf, RSF] at h ⊢; exact h.1
  | (k, d) :: l, xs, F, e, h => by
    simp only [ROF, OD.toDf, RSF] at h ⊢
    obtain ⟨x, r, F1, F2, rfl, rfl, p, q⟩ := h
    exact ⟨x, r, rfl, RO.share g (fun b hb => e b (List.mem_append_left _ hb)) p, ROF.share g (fun b hb => e b (List.mem_append_right _ hb)) q⟩
end
end
mutual
/-- no function within -/
def OD.noC : OD → Bool
  | .s d => d.noC
  | .ol l => OD.noCs l
  | .ot l => OD.noCs l
  | .odk l => OD.noCk l
  | .odt l => OD.noCt l
  | .oo _ _ => true
def OD.noCs : List OD → Bool
  | [] => true
  | d :: l => d.noC && OD.noCs l
def OD.noCk : List (Key × OD) → Bool
  | [] => true
  | (_, d) :: l => d.noC && OD.noCk l
def OD.noCt : List (List Key × OD) → Bool
  | [] => true
  | (_, d) :: l => d.noC && OD.noCt l
end
section
variable {c c' : RC} {G H : Hp}
mutual
theorem RO.re (k : c.K = c'.K) : ∀ {d : OD} {v : V} {F : List Addr}, d.noC = true → RO c H G d v F → RO c' H G d v F
  | .s d, v, F, n, h => by
    simp only [RO] at h ⊢
    simp only [OD.noC] at n
    exact ⟨RS.re k n h.1, h.2⟩
  | .ol l, v, F, n, h => by
    simp only [RO] at h ⊢
    simp only [OD.noC] at n
    obtain ⟨a, xs, F1, e, q, r, z⟩ := h
    exact ⟨a, xs, F1, e, q, ROL.re k n r, z⟩
  | .ot l, v, F, n, h => by
    simp only [RO] at h ⊢
    simp only [OD.noC] at n
    obtain ⟨a, xs, F1, e, q, r, z⟩ := h
    exact ⟨a, xs, F1, e, q, ROL.re k n r, z⟩
  | .odk l, v, F, n, h => by
    simp only [RO] at h ⊢
    simp only [OD.noC] at n
    obtain ⟨a, xs, F1, e, q, r, z⟩ := h
    exact ⟨a, xs, F1, e, q, ROK.re k n r, z⟩
  | .odt l, v, F, n, h => by
    simp only [RO] at h ⊢
    simp only [OD.noC] at n
    obtain ⟨a, xs, F1, e, q, r, z⟩ := h
    exact ⟨a, xs, F1, e, q, ROT.re k n r, z⟩
  | .oo j l, v, F, n, h => by simp [RO] at h
theorem ROL.re (k : c.K = c'.K) : ∀ {l : List OD} {xs : List V} {F : List Addr}, OD.noCs l = true → ROL c H G l xs F → ROL c' H G l xs F
  | [], xs, F, _, h => by simpa only [ROL] using h
  | d :: l, xs, F, n, h => by
    simp only [ROL] at h ⊢
    simp only [OD.noCs, Bool.and_eq_true] at n
    obtain ⟨x, r, F1, F2, e1, e2, p, q⟩ := h
    exact ⟨x, r, F1, F2, e1, e2, RO.re k n.1 p, ROL.re k n.2 q⟩
theorem ROK.re (k : c.K = c'.K) : ∀ {l : List (Key × OD)} {xs : List (Key × V)} {F : List Addr}, OD.noCk l = true → ROK c H G l xs F → ROK c' H G l xs F
  | [], xs, F, _, h => by simpa only [ROK] using h
  | (y, d) :: l, xs, F, n, h => by
    simp only [ROK] at h ⊢
    simp only [OD.noCk, Bool.and_eq_true] at n
    obtain ⟨x, r, F1, F2, e1, e2, p, q⟩ := h
    exact ⟨x, r, F1, F2, e1, e2, RO.re k n.1 p, ROK.re k n.2 q⟩
theorem ROT.re (k : c.K = c'.K) : ∀ {l : List (List Key × OD)} {xs : List (List Key × V)} {F : List Addr}, OD.noCt l = true → ROT c H G l xs F → ROT c' H G l xs F
  | [], xs, F, _, h => by simpa only [ROT] using h
  | (y, d) :: l, xs, F, n, h => by
    simp only [ROT] at h ⊢
    simp only [OD.noCt, Bool.and_eq_true] at n
    obtain ⟨x, r, F1, F2, e1, e2, p, q⟩ := h
    exact ⟨x, r, F1, F2, e1, e2, RO.re k n.1 p, ROT.re k n.2 q⟩
end
end
/-! ### the shared part, the heap, the slots -/
/-- an entry that a lambda's making may change -/
def nt : HO → Prop
  | .tbl _ => False
  | _ => True
/-- told of a table in the shared part: its code objects bear the name q -/
def tmark (q : Str) : HO := .xd [(q, .non)]
/-- the table at a in H: its code objects bear the name q, and stand in G -/
def TabG (G H : Hp) (a : Addr) (q : Str) : Prop := ∃ ps : Array Value, H a = some (.tbl ps) ∧ TriplesOk ps.toList ∧ ∀ (pos : Pos) (cv : Value), codeAmong pos ps.toList = some cv → ∃ c, cv = .ref c ∧ G c = some (LamX.CodeO c q)
theorem TabG.mono {G G' H : Hp} {a : Addr} {q : Str} (g : Gle G G') (t : TabG G H a q) : TabG G' H a q := by
  obtain ⟨ps, h1, h2, h3⟩ := t
  refine ⟨ps, h1, h2, fun pos cv hc => ?_⟩
  obtain ⟨c, e1, e2⟩ := h3 pos cv hc
  exact ⟨c, e1, g.ex e2 fun z => z⟩
/-- G stands in H, but that a dict may be locked, and a table told by its mark -/
def nm : HO → Prop
  | .xd _ => False
  | .tbl _ => False
  | _ => True
def Sub (G H : Hp) : Prop := ∀ a o, G a = some o → (H a = some o ∧ nm o) ∨ (isDict o ∧ ∃ ob, H a = some (.frz ob o)) ∨ (∃ q, o = tmark q ∧ TabG G H a q)
theorem Sub.rd {G H : Hp} {a : Addr} {xs : List V} (g : Sub G H) (h : Rd G a (.lst xs)) : Rd H a (.lst xs) := by
  rcases h with h | ⟨o, h⟩
  · rcases g _ _ h with ⟨e, _⟩ | ⟨z, _⟩ | ⟨_, z, _⟩
    · exact .inl e
    · exact z.elim
    · cases z
  · rcases g _ _ h with ⟨e, _⟩ | ⟨z, _⟩ | ⟨_, z, _⟩
    · exact .inr ⟨o, e⟩
    · exact z.elim
    · cases z
/-- what is no mark -/
theorem Sub.rdx {G H : Hp} {a : Addr} {u : HO} (g : Sub G H) (h : Rd G a u) (n : ∀ q, u ≠ tmark q) : Rd H a u := by
  rcases h with h | ⟨o, h⟩
  · rcases g _ _ h with ⟨e, _⟩ | ⟨_, ob, e⟩ | ⟨q, z, _⟩
    · exact .inl e
    · exact .inr ⟨ob, e⟩
    · exact absurd z (n q)
  · rcases g _ _ h with ⟨e, _⟩ | ⟨z, _⟩ | ⟨_, z, _⟩
    · exact .inr ⟨o, e⟩
    · exact z.elim
    · cases z
theorem Sub.list {K : PySem.W.Frag} {G H : Hp} {a : Addr} {xs : List V} (g : Sub G H) (h : SqL K G a xs) : SqL K H a xs := by
  rcases h with (h | ⟨o, h⟩) | h
  · rcases g _ _ h with ⟨e, _⟩ | ⟨z, _⟩ | ⟨_, z, _⟩
    · exact .inl (.inl e)
    · exact z.elim
    · cases z
  · rcases g _ _ h with ⟨e, _⟩ | ⟨z, _⟩ | ⟨_, z, _⟩
    · exact .inl (.inr ⟨o, e⟩)
    · exact z.elim
    · cases z
  · exact .inr h
theorem Sub.tup {K : PySem.W.Frag} {G H : Hp} {a : Addr} {xs : List V} (g : Sub G H) (h : SqT K G a xs) : SqT K H a xs := by
  rcases h with (h | ⟨o, h⟩) | h
  · rcases g _ _ h with ⟨e, _⟩ | ⟨z, _⟩ | ⟨_, z, _⟩
    · exact .inl (.inl e)
    · exact z.elim
    · cases z
  · rcases g _ _ h with ⟨e, _⟩ | ⟨z, _⟩ | ⟨_, z, _⟩
    · exact .inl (.inr ⟨o, e⟩)
    · exact z.elim
    · cases z
  · exact .inr h
/-- what may be written without touching a table or a code object -/
def seqO : HO → Prop
  | .tbl _ => False
  | .ext _ => False
  | .xd _ => False
  | _ => True
def plainH (o : Option HO) : Prop := ∀ u, o = some u → seqO u
theorem nm_of {o : HO} (h : seqO o) : nm o := by cases o <;> first | exact h | trivial
theorem plainH.none : plainH Option.none := fun u z => by cases z
theorem plainH.some {u : HO} (h : seqO u) : plainH (Option.some u) := fun v z => by cases z; exact h
theorem TabG.upd {G H : Hp} {a p : Addr} {q : Str} {o : HO} (t : TabG G H a q) (h : plainH (H p)) : TabG G (L2.upd H p o) a q := by
  obtain ⟨ps, h1, h2, h3⟩ := t
  refine ⟨ps, ?_, h2, h3⟩
  rw [upd_ne (fun z => by rw [z] at h1; exact (h _ h1).elim)]
  exact h1
theorem Sub.ext {G H : Hp} (s : Sub G H) {a : Addr} {φ : Heap → Prop} (h : G a = some (.ext φ)) : H a = some (.ext φ) := by
  rcases s _ _ h with ⟨e, _⟩ | ⟨z, _⟩ | ⟨_, z, _⟩
  · exact e
  · exact z.elim
  · cases z
theorem Sub.tab {G H : Hp} (s : Sub G H) {P : Addr} {q : Str} (h : G P = some (tmark q)) : TabG G H P q := by
  rcases s _ _ h with ⟨_, n⟩ | ⟨z, _⟩ | ⟨q', e, t⟩
  · exact n.elim
  · exact z.elim
  · have : q = q' := by
      unfold tmark at e
      injection e with e
      injection e with e
      injection e
    rw [this]
    exact t
theorem TabG.tabS {G H : Hp} (s : Sub G H) {P : Addr} {q : Str} (t : TabG G H P q) : LamX.TabS H P q := by
  obtain ⟨ps, h1, h2, h3⟩ := t
  refine ⟨ps, h1, h2, fun pos cv hc => ?_⟩
  obtain ⟨c, e1, e2⟩ := h3 pos cv hc
  exact ⟨c, e1, s.ext e2⟩
/-- the tables' marks -/
def Marks (c : RC) (G : Hp) : Prop := ∀ p ∈ c.tabs, G p.1 = some (tmark p.2.1)
theorem Marks.mono {c : RC} {G G' : Hp} (g : Gle G G') (h : Marks c G) : Marks c G' := fun p hp => g.ex (h p hp) fun z => z
abbrev Env := List (Option OD)
def REnv (c : RC) (H G : Hp) : Env → L2.St → List Addr → Prop
  | [], σ, F => σ = [] ∧ F = [] ∧ Marks c G
  | none :: e, σ, F => ∃ y r, σ = y :: r ∧ REnv c H G e r F
  | some od :: e, σ, F => ∃ v r F1 F2, σ = some v :: r ∧ F = F1 ++ F2 ∧ RO c H G od v F1 ∧ REnv c H G e r F2
theorem REnv.mono {c : RC} {H H' G G' : Hp} (g : Gle G G') : ∀ {e : Env} {σ : L2.St} {F : List Addr}, AgreeOn F H H' → REnv c H G e σ F → REnv c H' G' e σ F
  | [], σ, F, _, h => by
    simp only [REnv] at h ⊢
    exact ⟨h.1, h.2.1, h.2.2.mono g⟩
  | none :: e, σ, F, a, h => by
    simp only [REnv] at h ⊢
    obtain ⟨y, r, rfl, h⟩ := h
    exact ⟨y, r, rfl, REnv.mono g a h⟩
  | some od :: e, σ, F, a, h => by
    simp only [REnv] at h ⊢
    obtain ⟨v, r, F1, F2, rfl, rfl, p, q⟩ := h
    exact ⟨v, r, F1, F2, rfl, rfl, RO.mono g (fun b hb => a b (List.mem_append_left _ hb)) p, REnv.mono g (fun b hb => a b (List.mem_append_right _ hb)) q⟩
theorem REnv.len {c : RC} {H G : Hp} : ∀ {e : Env} {σ : L2.St} {F : List Addr}, REnv c H G e σ F → σ.length = e.length
  | [], σ, F, h => by simp only [REnv] at h; rw [h.1]; rfl
  | none :: e, σ, F, h => by
    simp only [REnv] at h
    obtain ⟨y, r, rfl, h⟩ := h
    simp [REnv.len h]
  | some od :: e, σ, F, h => by
    simp only [REnv] at h
    obtain ⟨v, r, F1, F2, rfl, rfl, p, q⟩ := h
    simp [REnv.len q]
theorem REnv.marks {c : RC} {H G : Hp} : ∀ {e : Env} {σ : L2.St} {F : List Addr}, REnv c H G e σ F → Marks c G
  | [], σ, F, h => by simp only [REnv] at h; exact h.2.2
  | none :: e, σ, F, h => by
    simp only [REnv] at h
    obtain ⟨y, r, rfl, h⟩ := h
    exact REnv.marks h
  | some od :: e, σ, F, h => by
    simp only [REnv] at h
    obtain ⟨v, r, F1, F2, rfl, rfl, p, q⟩ := h
    exact REnv.marks q
/-- a slot's value, and the slots with another value there -/
theorem REnv.get {c : RC} {H G : Hp} : ∀ {e : Env} {σ : L2.St} {F : List Addr} {i : Nat} {od : OD}, REnv c H G e σ F → e[i]? = some (some od) →
    ∃ v Fa Fi Fb, σ[i]? = some (some v) ∧ F = Fa ++ (Fi ++ Fb) ∧ RO c H G od v Fi ∧
      (∀ (H' G' : Hp) (od' : OD) (v' : V) (Fi' : List Addr), Gle G G' → AgreeOn (Fa ++ Fb) H H' → RO c H' G' od' v' Fi' → REnv c H' G' (e.set i (some od')) (σ.set i (some v')) (Fa ++ (Fi' ++ Fb))) ∧
      (∀ (H' G' : Hp) (y : Option V), Gle G G' → AgreeOn (Fa ++ Fb) H H' → REnv c H' G' (e.set i none) (σ.set i y) (Fa ++ Fb))
  | [], σ, F, i, od, h, x => by simp at x
  | none :: e, σ, F, 0, od, h, x => by simp at x
  | none :: e, σ, F, i + 1, od, h, x => by
    simp only [REnv] at h
    obtain ⟨y, r, rfl, h⟩ := h
    obtain ⟨v, Fa, Fi, Fb, e1, e2, p, q1, q2⟩ := REnv.get (i := i) (od := od) h (by simpa using x)
    refine ⟨v, Fa, Fi, Fb, by simpa using e1, e2, p, fun H' G' od' v' Fi' g a p' => ?_, fun H' G' y' g a => ?_⟩
    · simp only [List.set_cons_succ, REnv]; exact ⟨y, _, rfl, q1 H' G' od' v' Fi' g a p'⟩
    · simp only [List.set_cons_succ, REnv]; exact ⟨y, _, rfl, q2 H' G' y' g a⟩
  | some o :: e, σ, F, 0, od, h, x => by
    simp only [REnv] at h
    obtain ⟨v, r, F1, F2, rfl, rfl, p, q⟩ := h
    simp only [List.getElem?_cons_zero, Option.some.injEq] at x
    subst x
    refine ⟨v, [], F1, F2, by simp, by simp, p, fun H' G' od' v' Fi' g a p' => ?_, fun H' G' y' g a => ?_⟩
    · simp only [List.set_cons_zero, REnv]; exact ⟨v', r, Fi', F2, rfl, by simp, p', REnv.mono g (by simpa using a) q⟩
    · simp only [List.set_cons_zero, REnv]; exact ⟨y', r, rfl, REnv.mono g (by simpa using a) q⟩
  | some o :: e, σ, F, i + 1, od, h, x => by
    simp only [REnv] at h
    obtain ⟨w, r, F1, F2, rfl, rfl, p, q⟩ := h
    obtain ⟨v, Fa, Fi, Fb, e1, rfl, p1, q1, q2⟩ := REnv.get (i := i) (od := od) q (by simpa using x)
    refine ⟨v, F1 ++ Fa, Fi, Fb, by simpa using e1, by simp, p1, fun H' G' od' v' Fi' g a p' => ?_, fun H' G' y' g a => ?_⟩
    · simp only [List.set_cons_succ, REnv]
      refine ⟨w, _, F1, Fa ++ (Fi' ++ Fb), rfl, by simp, RO.mono g (fun b hb => a b (by simp [hb])) p, q1 H' G' od' v' Fi' g (fun b hb => a b ?_) p'⟩
      rcases List.mem_append.mp hb with z | z <;> simp [z]
    · simp only [List.set_cons_succ, REnv]
      refine ⟨w, _, F1, Fa ++ Fb, rfl, by simp, RO.mono g (fun b hb => a b (by simp [hb])) p, q2 H' G' y' g (fun b hb => a b ?_)⟩
      rcases List.mem_append.mp hb with z | z <;> simp [z]
/-- an empty slot gets a value -/
theorem REnv.put {c : RC} {H G : Hp} : ∀ {e : Env} {σ : L2.St} {F : List Addr} {i : Nat}, REnv c H G e σ F → e[i]? = some none →
    ∃ Fa Fb, F = Fa ++ Fb ∧ ∀ (od' : OD) (v' : V) (Fi' : List Addr), RO c H G od' v' Fi' → REnv c H G (e.set i (some od')) (σ.set i (some v')) (Fa ++ (Fi' ++ Fb))
  | [], σ, F, i, h, x => by simp at x
  | some o :: e, σ, F, 0, h, x => by simp at x
  | none :: e, σ, F, 0, h, x => by
    simp only [REnv] at h
    obtain ⟨y, r, rfl, h⟩ := h
    refine ⟨[], F, rfl, fun od' v' Fi' p => ?_⟩
    simp only [List.set_cons_zero, REnv]; exact ⟨v', r, Fi', F, rfl, by simp, p, h⟩
  | none :: e, σ, F, i + 1, h, x => by
    simp only [REnv] at h
    obtain ⟨y, r, rfl, h⟩ := h
    obtain ⟨Fa, Fb, e1, q⟩ := REnv.put (i := i) h (by simpa using x)
    refine ⟨Fa, Fb, e1, fun od' v' Fi' p => ?_⟩
    simp only [List.set_cons_succ, REnv]; exact ⟨y, _, rfl, q od' v' Fi' p⟩
  | some o :: e, σ, F, i + 1, h, x => by
    simp only [REnv] at h
    obtain ⟨w, r, F1, F2, rfl, rfl, p, q⟩ := h
    obtain ⟨Fa, Fb, rfl, q1⟩ := REnv.put (i := i) q (by simpa using x)
    refine ⟨F1 ++ Fa, Fb, by simp, fun od' v' Fi' p' => ?_⟩
    simp only [List.set_cons_succ, REnv]
    exact ⟨w, _, F1, Fa ++ (Fi' ++ Fb), rfl, by simp, p, q1 od' v' Fi' p'⟩
/-- the state of a body: the slots σ tell env, over the shared G and the owned F -/
structure SIM (c : RC) (σ : L2.St) (H G : Hp) (F : List Addr) (env : Env) : Prop where
  sub : Sub G H
  ren : REnv c H G env σ F
  nd : F.Nodup
  gf : ∀ a ∈ F, G a = none
/-- from one state to a later one -/
structure Step (H G : Hp) (F : List Addr) (H' G' : Hp) (F' : List Addr) : Prop where
  keep : ∀ a o, H a = some o → nt o → a ∉ F → G' a = none → H' a = some o
  some : ∀ a, H a ≠ none → H' a ≠ none
  gle : Gle G G'
  fF : ∀ a ∈ F', a ∈ F ∨ H a = none
  fG : ∀ a, G' a ≠ none → G a ≠ none ∨ a ∈ F ∨ H a = none
theorem Step.refl {H G : Hp} {F : List Addr} : Step H G F H G F := ⟨fun _ _ h _ _ _ => h, fun _ h => h, Gle.refl _, fun _ h => .inl h, fun _ h => .inl h⟩
theorem Step.trans {H G H1 G1 H2 G2 : Hp} {F F1 F2 : List Addr} (x : Step H G F H1 G1 F1) (y : Step H1 G1 F1 H2 G2 F2) : Step H G F H2 G2 F2 := by
  refine ⟨fun a o h n hf gn => y.keep a o (x.keep a o h n hf (y.gle.some gn)) n (fun z => ?_) gn, fun a h => y.some a (x.some a h), x.gle.trans y.gle, fun a h => ?_, fun a h => ?_⟩
  · rcases x.fF a z with z | z
    · exact hf z
    · rw [h] at z; cases z
  · rcases y.fF a h with z | z
    · exact x.fF a z
    · by_cases q : H a = none
      · exact .inr q
      · exact absurd z (x.some a q)
  · rcases y.fG a h with z | z | z
    · exact x.fG a z
    · exact .inr (x.fF a z)
    · by_cases q : H a = none
      · exact .inr (.inr q)
      · exact absurd z (x.some a q)
/-- a footprint may be told smaller -/
theorem Step.less {H G H' G' : Hp} {F F' F2 : List Addr} (x : Step H G F H' G' F') (h : ∀ a ∈ F2, a ∈ F') : Step H G F H' G' F2 := ⟨x.keep, x.some, x.gle, fun a q => x.fF a (h a q), x.fG⟩
end MW
namespace MW
open L2 PyProof.Rows PySem.Spec PySem
/-! ### tests of a caught exception -/
inductive HB where
  | isc (x : Str) | ist (xs : List Str) | not1 (a : HB) | and2 (a b : HB) | or2 (a b : HB)
def hbev (r : Str → Bool) : HB → Bool
  | .isc x => r x
  | .ist xs => xs.any r
  | .not1 a => !hbev r a
  | .and2 a b => hbev r a && hbev r b
  | .or2 a b => hbev r a || hbev r b
def hnames : HB → List Str
  | .isc x => [x]
  | .ist xs => xs
  | .not1 a => hnames a
  | .and2 a b => hnames a ++ hnames b
  | .or2 a b => hnames a ++ hnames b
def hsmall : HB → Prop
  | .isc _ => True
  | .ist xs => xs.length ≤ 100
  | .not1 a => hsmall a
  | .and2 a b => hsmall a ∧ hsmall b
  | .or2 a b => hsmall a ∧ hsmall b
inductive HC where
  | bl (b : Bool) | str (x : Str)
def HC.v : HC → V
  | .bl b => .bl b
  | .str x => .str x
def HC.d : HC → D
  | .bl b => .bl b
  | .str x => .str x
inductive HS where
  | ifR (c : HB) (v : HC) (l : HS) | retB (b : HB) | retC (v : HC) | retW (f : Nat) (w : List (Str × Str))
/-- the word of the first class that holds -/
def wordOf (r : Str → Bool) : List (Str × Str) → Str
  | [] => "else"
  | (x, y) :: l => if r x = true then y else wordOf r l
def hsev (r : Str → Bool) : HS → HC
  | .retW _ w => .str (wordOf r w)
  | .ifR c v l => if hbev r c = true then v else hsev r l
  | .retB b => .bl (hbev r b)
  | .retC v => v
def hsnames : HS → List Str
  | .retW _ _ => ["ValueError"]
  | .ifR c _ l => hnames c ++ hsnames l
  | .retB b => hnames b
  | .retC _ => []
def hssmall : HS → Prop
  | .retW _ _ => True
  | .ifR c _ l => hsmall c ∧ hssmall l
  | .retB b => hsmall b
  | .retC _ => True
/-- the package's refusals, by number -/
def clsNames : List Str := ["NetError", "NoNet", "NoPlace", "SamePlace", "Twice", "Taken", "NoColours", "NoSet", "NoParting", "NoGroup", "TooMany", "NoDeed", "Unlike", "NoText", "NoRow", "NoName"]
/-- is one of class j an x -/
def relE (j : Nat) (x : Str) : Bool := decide (x = ("NetError" : Str)) || decide (x = ("ValueError" : Str)) || decide (clsNames[j]? = some x)
/-! ### the program's defs as data of our own -/
inductive P1 where
  | neg | len | listOf | tupOf | strOf | intOf | isTup | isInt | isBool | isStr | isList | isNone | notNone | allL | anyL | minL | maxL | sumL | sorted | tupRng | lenSet | tupX
inductive P2 where
  | add | sub | mul | mod | fdiv | pow | shl | shr | band | eq | ne | lt | le | gt | ge | inn | notin | idx | max2 | min2 | sliceLo | sliceHi | isnt | iss | idxx
/-- methods of one argument that change nothing -/
inductive PM where
  | join | tindex
mutual
inductive ME where
  | var (i : Nat) | mov (i : Nat) | bv (i : Nat)
  | cint (i : Int) | cbl (b : Bool) | cnon | cstr (x : Str)
  | p1 (p : P1) (a : ME) | p2 (p : P2) (a b : ME) | slc (a b c : ME)
  | mth (p : PM) (a b : ME)
  | chain (p q : P2) (a b c : ME)
  | and2 (a b : ME) | or2 (a b : ME) | not1 (a : ME)
  | ife (c a b : ME)
  | tup (l : MAs) | lst (l : MAs)
  | call (f : Nat) (l : MAs)
  | skey (f : Nat) (a : ME)
  | glb (x : Str) (d : D) | dnew (t : Bool) | get3 (a k d : ME)
  | pop (i : Nat) | upper (a : ME)
  | callv (i : Nat) (l : MAs)
  | callL (f : Nat) (a : ME) (g : Nat) (js : List Nat)
  | callB (f : Nat) (l : MAs)
  | tupK (l : MAs)
  | comp (sl : Bool) (own : List Nat) (t : List Nat) (one : Bool) (it : MI) (cond : MO) (elt : ME)
/-- a list of arguments; true: handed over as it is (owned), false: shared -/
inductive MAs where
  | nil | cons (m : Bool) (e : ME) (l : MAs)
inductive MO where
  | none | some (e : ME)
inductive MI where
  | seq (e : ME) | rng1 (e : ME) | rng2 (a b : ME) | enum (e : ME) | zip (a b : ME) | keys (e : ME) | vals (e : ME) | chars (e : ME)
end
mutual
inductive MS where
  | asg (i : Nat) (e : ME)
  | asgT (is : List Nat) (e : ME)
  | exp (e : ME)
  | app (sl : Bool) (i : Nat) (e : ME)
  | ext (i : Nat) (e : ME)
  | rev (i : Nat)
  | setI (i : Nat) (k e : ME)
  | setD (i : Nat) (k e : ME) | setDN (i : Nat) (k : ME) | setDD (i j1 j2 : Nat) (e : ME) | setDT (i : Nat) (k e : ME)
  | aug (i : Nat) (e : ME)
  | ifs (c : ME) (a b : MSs)
  | whl (n : Nat) (c : ME) (b : MSs)
  | for_ (t : List Nat) (one : Bool) (it : MI) (b : MSs)
  | ret (e : ME) | retN
  | retL (f : Nat) (a : ME) (g : Nat) (js : List Nat)
  | brk | cnt | pas | nev | rai (k : Nat)
  | tryR (b : MSs) (i : Nat) (js : List Nat) (h : HS)
inductive MSs where
  | nil | cons (s : MS) (l : MSs)
  | defC (j f : Nat) (a : ME) (g : Nat) (js : List Nat)
end
/-! ### what they do -/
inductive Out (α : Type) where
  | ok (a : α) (e : Env) | exc (c : Nat) (e : Env) | bad
inductive CRes where
  | ok (r : OD) | exc (c : Nat) | bad
abbrev CallS := Nat → List OD → CRes
inductive SOut where
  | nx (e : Env) | rt (r : OD) (e : Env) | bk (e : Env) | ct (e : Env) | exc (c : Nat) (e : Env) | bad
def Out.bind {α β : Type} (x : Out α) (f : α → Env → Out β) : Out β := match x with
  | .ok a e => f a e
  | .exc c e => .exc c e
  | .bad => .bad
def Out.opt {α : Type} (x : Option α) (e : Env) : Out α := match x with
  | some a => .ok a e
  | none => .bad
/-- all items are shared -/
def allS : List OD → Option (List D)
  | [] => some []
  | .s d :: l => (allS l).map (d :: ·)
  | _ :: _ => none
def allSK : List (Key × OD) → Option (List (Key × D))
  | [] => some []
  | (k, .s d) :: l => (allSK l).map ((k, d) :: ·)
  | _ :: _ => none
def allST : List (List Key × OD) → Option (List (List Key × D))
  | [] => some []
  | (k, .s d) :: l => (allST l).map ((k, d) :: ·)
  | _ :: _ => none
/-- an owned value read where it stands: its own node alone is owned -/
def OD.flatD : OD → Option D
  | .s d => some d
  | .ol l => (allS l).map .lst
  | .odk l => (allSK l).map .dk
  | .odt l => (allST l).map .dt
  | _ => none
/-- an operand: a value, or a slot that is read when the operation runs -/
inductive Opd where
  | v (d : D) | at (i : Nat)
def Opd.res (o : Opd) (e : Env) : Option D := match o with
  | .v d => some d
  | .at i => match e[i]? with
    | some (some od) => od.flatD
    | _ => none
mutual
/-- no dict is owned within -/
def borO : OD → Bool
  | .s _ => true
  | .ol l => borOs l
  | .ot l => borOs l
  | _ => false
def borOs : List OD → Bool
  | [] => true
  | d :: l => borO d && borOs l
end
/-- an operand that is lent -/
def Opd.resT (o : Opd) (e : Env) : Option D := match o with
  | .v d => some d
  | .at i => match e[i]? with
    | some (some od) => if borO od then some od.toD else none
    | _ => none
def resTs : List Opd → Env → Option (List D)
  | [], _ => some []
  | o :: os, e => match o.resT e, resTs os e with
    | some d, some ds => some (d :: ds)
    | _, _ => none
/-- what is no object -/
def scaD : D → Bool
  | .non => true
  | .bl _ => true
  | .int _ => true
  | .str _ => true
  | _ => false
/-- the slots that a function captures: shared from now on -/
def capE : List Nat → Env → Option (List D × Env)
  | [], e => some ([], e)
  | j :: js, e => match e[j]? with
    | some (some od) => (capE js (e.set j (some (.s od.toD)))).map fun p => (od.toD :: p.1, p.2)
    | _ => none
mutual
def toPy : D → Option PyData
  | .non => some .none
  | .bl b => some (.bool b)
  | .int i => some (.int i)
  | .str x => some (.str x)
  | .tup l => (toPys l).map .tuple
  | .lst l => (toPys l).map .list
  | _ => none
def toPys : List D → Option (List PyData)
  | [] => some []
  | d :: l => match toPy d, toPys l with
    | some x, some r => some (x :: r)
    | _, _ => none
end
/-- == -/
def eqP (a b : D) : Option Bool := match toPy a, toPy b with
  | some x, some y => if SeqAt.shaped x && SeqAt.shaped y then some (PyData.eqv x y) else none
  | _, _ => none
def eqD (a b : D) : Option Bool := match a, b with
  | .str x, .str y => some (decide (x = y))
  | .int x, .int y => some (decide (x = y))
  | a, b => eqP a b
def flV : D → Option V
  | .non => some .non
  | .bl b => some (.bl b)
  | .int i => some (.int i)
  | .str x => some (.str x)
  | _ => none
def flVs : List D → Option (List V)
  | [] => some []
  | d :: l => match flV d, flVs l with
    | some x, some r => some (x :: r)
    | _, _ => none
def inD (x : D) (l : List D) : Option Bool := match flV x, flVs l with
  | some v, some vs => some (inV v vs)
  | _, _ => none
def asInts : List D → Option (List Int)
  | [] => some []
  | .int i :: l => (asInts l).map (i :: ·)
  | _ :: _ => none
def asBls : List D → Option (List Bool)
  | [] => some []
  | .bl i :: l => (asBls l).map (i :: ·)
  | _ :: _ => none
def asStrs : List D → Option (List Str)
  | [] => some []
  | .str i :: l => (asStrs l).map (i :: ·)
  | _ :: _ => none
/-- a key of a dict -/
def keyD : D → Option Key
  | .int i => some (.inl i)
  | .str x => some (.inr x)
  | _ => none
/-- a tuple that is a key -/
def keyT : D → Option (List Key)
  | .kt ks => some ks
  | _ => none
def keyO : OD → Option Key
  | .s d => keyD d
  | _ => none
def keysO : List OD → Option (List Key)
  | [] => some []
  | o :: l => match keyO o, keysO l with
    | some k, some r => some (k :: r)
    | _, _ => none
/-- what stands at a key -/
def valO {κ β : Type} [DecidableEq κ] (l : List (κ × β)) (k : κ) : Option β := (l.find? fun p => decide (p.1 = k)).map (·.2)
def dkey : Key → D
  | .inl i => .int i
  | .inr x => .str x
/-- one sign in a text -/
def signIn (x z : Str) : Option Bool := match x.cps.toList with
  | [c] => some (decide (c ∈ z.cps.toList))
  | _ => none
def charsD (x : Str) : List D := x.cps.toList.map fun k => .str ⟨#[k]⟩
def isq (d : D) : Option (List D) := match d with
  | .lst l => some l
  | .scr l => some l
  | .tup l => some l
  | .kt ks => some (ks.map dkey)
  | _ => none
def cutD (l : List D) (lo hi : Option Int) : List D := (l.drop (HT.sIx l.length 0 lo)).take (HT.sIx l.length l.length hi - HT.sIx l.length 0 lo)
def sliceSem (d : D) (lo hi : Option Int) : Option OD := match d with
  | .lst l => some (.ol ((cutD l lo hi).map .s))
  | .scr l => some (.ol ((cutD l lo hi).map .s))
  | .str z => if z.length ≤ sizeLine then some (.s (.str (cutS z lo hi))) else none
  | .tup l => some (.s (.tup (cutD l lo hi)))
  | _ => none
def isInst (p : P1) (d : D) : Option Bool := match p, d with
  | .isTup, .tup _ => some true
  | .isTup, .non | .isTup, .bl _ | .isTup, .int _ | .isTup, .str _ | .isTup, .lst _ | .isTup, .dk _ => some false
  | .isInt, .int _ | .isInt, .bl _ => some true
  | .isInt, .non | .isInt, .str _ | .isInt, .tup _ | .isInt, .lst _ | .isInt, .dk _ => some false
  | .isBool, .bl _ => some true
  | .isBool, .non | .isBool, .int _ | .isBool, .str _ | .isBool, .tup _ | .isBool, .lst _ | .isBool, .dk _ => some false
  | .isStr, .str _ => some true
  | .isStr, .non | .isStr, .int _ | .isStr, .bl _ | .isStr, .tup _ | .isStr, .lst _ | .isStr, .dk _ => some false
  | .isList, .lst _ => some true
  | .isList, .non | .isList, .int _ | .isList, .bl _ | .isList, .tup _ | .isList, .str _ | .isList, .dk _ => some false
  | _, _ => none
def D.isN : D → Bool
  | .non => true
  | _ => false
def maxI (a b : Int) : Int := if b > a then b else a
def minI (a b : Int) : Int := if b < a then b else a
/-! sorting -/
def alikeB (ks : List PyData) : Bool := ks.all fun a => ks.all fun b => PySem.W.alike a b
def tupNE : PyData → Bool
  | .tuple (_ :: _) => true
  | _ => false
def nonTup : PyData → Bool
  | .none => false
  | .tuple _ => false
  | _ => true
def sortOk (ks : List PyData) : Bool := alikeB ks && (ks.all tupNE || ks.all nonTup) && ks.all fun d => decide (d.depth ≤ 32)
def keyOf (d : D) : PyData := (toPy d).getD .none
def sortD (l : List D) : Option OD := match toPys l with
  | some ks => if sortOk ks = true ∧ l.length ≤ sizeLine then some (.ol ((l.mergeSort (PySem.W.dataLe false keyOf)).map .s)) else none
  | none => none
def sortK (l ks : List D) : Option OD := match toPys ks with
  | some ps => if sortOk ps = true ∧ l.length ≤ sizeLine ∧ ps.length = l.length then some (.ol (((l.zip ps).mergeSort (PySem.W.dataLe false Prod.snd)).map fun p => .s p.1)) else none
  | none => none
/-- such a tuple seen as any other -/
def D.view : D → D
  | .obj _ l => .tup (l.map fun p => p.2)
  | d => d
/-- a tuple of which it is known that it has no dict: its method index may be called -/
def tupD (l : List D) : D := .obj 0 (l.map fun d => (("" : Str), d))
/-- how many unlike numbers -/
def ddN (ns : List Int) : Nat := (PyProof.Rows.firstMet (fun i => ns.getD i 0) ns.length).length
def p1Sem (p : P1) (d : D) : Option OD := match p with
  | .neg => match d with
    | .int i => some (.s (.int (-i)))
    | _ => none
  | .len => match d with
    | .lst l => some (.s (.int l.length))
    | .scr l => some (.s (.int l.length))
    | .tup l => some (.s (.int l.length))
    | .str x => if x.length ≤ sizeLine then some (.s (.int x.length)) else none
    | _ => none
  | .listOf => match d with
    | .dk l => some (.ol (l.map fun p => .s (dkey p.1)))
    | d => (isq d).map fun l => .ol (l.map .s)
  | .tupOf => (isq d).map fun l => .s (.tup l)
  | .tupX => match d with
    | .lst l => some (.s (tupD l))
    | _ => none
  | .strOf => match d with
    | .int i => if i.natAbs.log2 < 1920 then some (.s (.str (toString i))) else none
    | _ => none
  | .intOf => match d with
    | .int i => some (.s (.int i))
    | .bl b => some (.s (.int (if b then 1 else 0)))
    | .str x => if x.length ≤ 640 then (PySem.intText? x).map fun n => .s (.int n) else none
    | _ => none
  | .isNone => some (.s (.bl d.isN))
  | .notNone => some (.s (.bl !d.isN))
  | .allL => match d with
    | .lst l => (asBls l).map fun bs => .s (.bl (bs.all id))
    | _ => none
  | .anyL => match d with
    | .lst l => (asBls l).map fun bs => .s (.bl (bs.any id))
    | _ => none
  | .minL => match d with
    | .lst l => match asInts l with
      | some (x :: r) => some (.s (.int (r.foldl minI x)))
      | _ => none
    | _ => none
  | .maxL => match d with
    | .lst l => match asInts l with
      | some (x :: r) => some (.s (.int (r.foldl maxI x)))
      | _ => none
    | _ => none
  | .sumL => match d with
    | .lst l => (asInts l).map fun ns => .s (.int ns.sum)
    | _ => none
  | .sorted => match d with
    | .lst l => sortD l
    | .scr l => sortD l
    | .tup l => sortD l
    | _ => none
  | .tupRng => match d with
    | .int j => if j ≤ 1000000 ∧ -1000000 ≤ j then some (.s (.tup ((List.range j.toNat).map fun (k : Nat) => .int (k : Nat)))) else none
    | _ => none
  | .lenSet => match d with
    | .lst l => match asInts l with
      | some ns => if ns.length ≤ 4000 then some (.s (.int (ddN ns))) else none
      | none => none
    | _ => none
  | p => (isInst p d).map fun b => .s (.bl b)
def cmpI (a b : D) (f : Int → Int → Bool) : Option OD := match a, b with
  | .int i, .int j => some (.s (.bl (f i j)))
  | _, _ => none
/-- x in y -/
def memD (a b : D) : Option Bool := match b with
  | .dk l => (keyD a).map fun k => (valO l k).isSome
  | .dt l => (keyT a).map fun k => (valO l k).isSome
  | .str z => match a with
    | .str x => signIn x z
    | _ => none
  | b => (isq b).bind fun l => inD a l
/-- the same, of lists and dicts alone -/
def memN (a b : D) : Option Bool := match b with
  | .str _ => none
  | b => memD a b
/-- x[y] -/
def idxD (a b : D) : Option D := match a with
  | .dk l => (keyD b).bind fun k => valO l k
  | .dt l => (keyT b).bind fun k => valO l k
  | .str z => match b with
    | .int i => if z.length ≤ sizeLine then (atI z.cps.toList i).map fun c => .str ⟨#[c]⟩ else none
    | _ => none
  | a => match b with
    | .int i => (isq a).bind fun l => atI l i
    | _ => none
def p2Sem (p : P2) (a b : D) : Option OD := match p with
  | .add => match a, b with
    | .int i, .int j => some (.s (.int (i + j)))
    | .str i, .str j => if i.length + j.length ≤ sizeLine then some (.s (.str (i ++ j))) else none
    | .lst i, .lst j => if i.length + j.length ≤ sizeLine then some (.ol ((i ++ j).map .s)) else none
    | .tup i, .tup j => if i.length + j.length ≤ sizeLine then some (.s (.tup (i ++ j))) else none
    | _, _ => none
  | .sub => match a, b with
    | .int i, .int j => some (.s (.int (i - j)))
    | _, _ => none
  | .mul => match a, b with
    | .int i, .int j => if ((-(2 ^ 64) < i ∧ i < 2 ^ 64) ∨ (-(2 ^ 64) < j ∧ j < 2 ^ 64)) ∨ i.natAbs.log2 + j.natAbs.log2 < 1000000 then some (.s (.int (i * j))) else none
    | _, _ => none
  | .mod => match a, b with
    | .int i, .int j => if 0 < j then some (.s (.int (i % j))) else none
    | _, _ => none
  | .fdiv => match a, b with
    | .int i, .int j => if 0 < j ∧ j < 1073741824 then some (.s (.int (i / j))) else none
    | _, _ => none
  | .pow => match a, b with
    | .int i, .int j => if 0 ≤ j ∧ j ≤ 1000000 ∧ i.natAbs < 2 ^ 64 then some (.s (.int (i ^ j.toNat))) else none
    | _, _ => none
  | .shl => match a, b with
    | .int i, .int j => if 0 ≤ j ∧ j ≤ 1000000 ∧ i.natAbs < 2 ^ 64 then some (.s (.int (i * 2 ^ j.toNat))) else none
    | _, _ => none
  | .shr => match a, b with
    | .int i, .int j => if 0 ≤ j then some (.s (.int (i / 2 ^ j.toNat))) else none
    | _, _ => none
  | .band => match a, b with
    | .int i, .int j => some (.s (.int (Builtin.bitAnd i j)))
    | _, _ => none
  | .eq => (eqD a b).map fun k => .s (.bl k)
  | .ne => (eqD a b).map fun k => .s (.bl !k)
  | .lt => cmpI a b fun i j => decide (i < j)
  | .le => cmpI a b fun i j => decide (i ≤ j)
  | .gt => cmpI a b fun i j => decide (j < i)
  | .ge => cmpI a b fun i j => decide (j ≤ i)
  | .inn => (memD a b).map fun k => .s (.bl k)
  | .notin => (memN a b).map fun k => .s (.bl !k)
  | .idx => (idxD a b).map .s
  | .idxx => (idxD a b).map fun d => .s d.view
  | .iss => match a, b with
    | .bl i, .bl j => some (.s (.bl (decide (i = j))))
    | _, _ => none
  | .isnt => match a, b with
    | .bl i, .bl j => some (.s (.bl (!decide (i = j))))
    | _, _ => none
  | .max2 => match a, b with
    | .int i, .int j => some (.s (.int (maxI i j)))
    | _, _ => none
  | .min2 => match a, b with
    | .int i, .int j => some (.s (.int (minI i j)))
    | _, _ => none
  | .sliceLo => match b with
    | .int i => sliceSem a (some i) none
    | _ => none
  | .sliceHi => match b with
    | .int i => sliceSem a none (some i)
    | _ => none
def pmTy : PM → D → Bool
  | .join, .str _ => true
  | .tindex, .obj _ _ => true
  | _, _ => false
def pmSem (p : PM) (a b : D) : Option OD := match p with
  | .join => match a with
    | .str z => (isq b).bind fun l => (asStrs l).bind fun ys => if (ys.map (·.length)).sum + ys.length * z.length ≤ 16777216 then some (.s (.str (Txt.join z ys))) else none
    | _ => none
  | .tindex => match a, b with
    | .obj _ l, .int i => (asInts (l.map fun p => p.2)).bind fun ns => if i ∈ ns then some (.s (.int (ns.idxOf i : Nat))) else none
    | _, _ => none
def truD : D → Option Bool
  | .non => some false
  | .bl b => some b
  | .int i => some (i != 0)
  | .lst l => some (!l.isEmpty)
  | .tup l => some (!l.isEmpty)
  | _ => none
def OD.boo : OD → Option Bool
  | .s (.bl b) => some b
  | _ => none
/-- a tuple of these -/
def mkT (l : List OD) : OD := match allS l with
  | some ds => .s (.tup ds)
  | none => .ot l
def setTs : List Nat → List D → Env → Option Env
  | i :: is, d :: ds, e => if i < e.length then setTs is ds (e.set i (some (.s d))) else none
  | _, _, e => some e
/-- the slots of a target -/
def setT (t : List Nat) (one : Bool) (d : D) (e : Env) : Option Env := match one, t with
  | true, [i] => if i < e.length then some (e.set i (some (.s d))) else none
  | false, is => match d with
    | .tup ds => if ds.length = is.length then setTs is ds e else none
    | _ => none
  | _, _ => none
/-- the slots of a comprehension's own names, forgotten; they must hold nothing that is owned -/
def wipeE : List Nat → Env → Env
  | [], e => e
  | i :: r, e => (wipeE r e).set i none
def wipeOk (own : List Nat) (e : Env) : Bool := own.all fun i => match e[i]? with
  | some none => true
  | some (some (.s _)) => true
  | _ => false
def backE (old : Env) : List Nat → Env → Env
  | [], e => e
  | i :: r, e => (backE old r e).set i (old.getD i none)
def enumD (l : List D) : List D := l.zipIdx.map fun (d, i) => .tup [.int (i : Nat), d]
def zipD (a b : List D) : List D := (a.zip b).map fun (x, y) => .tup [x, y]
/-- the turns of a comprehension -/
def compRun (own t : List Nat) (one : Bool) (tst : Env → Out Bool) (elt : Env → Out OD) : List D → List OD → Env → Out (List OD)
  | [], acc, e => .ok acc e
  | d :: ds, acc, e => match (if wipeOk own e then setT t one d (wipeE own e) else none) with
    | none => .bad
    | some e1 => match tst e1 with
      | .ok true e2 => (match elt e2 with
        | .ok od e3 => if acc.length < sizeLine then compRun own t one tst elt ds (acc ++ [od]) e3 else .bad
        | _ => .bad)
      | .ok false e2 => compRun own t one tst elt ds acc e2
      | _ => .bad
/-- an operand: a slot read in place, or a shared value -/
def opd (a : ME) (r : Env → Out OD) (e : Env) : Out Opd := match a with
  | .bv i => (match e[i]? with | some (some _) => .ok (.at i) e | _ => .bad)
  | _ => (r e).bind fun od e => .ok (.v od.toD) e
/-- owned or shared -/
def asArg (m : Bool) (od : OD) : OD := if m then od else .s od.toD
def sealO (m : Bool) (f : Env → Out OD) : Env → Out OD := fun e => (f e).bind fun od e => .ok (asArg m od) e
/-- a key for each -/
def keysC (C : CallS) (f : Nat) : List D → Option (List D)
  | [] => some []
  | d :: l => match C f [.s d] with
    | .ok r => (keysC C f l).map (r.toD :: ·)
    | _ => none
section
variable (C : CallS)
mutual
def ev : ME → Env → Out OD
  | .var i, e => match e[i]? with
    | some (some od) => .ok (.s od.toD) (e.set i (some (.s od.toD)))
    | _ => .bad
  | .mov i, e => match e[i]? with
    | some (some od) => .ok od (e.set i none)
    | _ => .bad
  | .bv i, e => match e[i]? with
    | some (some (.s d)) => .ok (.s d) e
    | _ => .bad
  | .cint i, e => .ok (.s (.int i)) e
  | .cbl b, e => .ok (.s (.bl b)) e
  | .cnon, e => .ok (.s .non) e
  | .cstr x, e => .ok (.s (.str x)) e
  | .p1 p a, e => (opd a (ev a) e).bind fun a e => match a.res e with
    | some a => .opt (p1Sem p a) e
    | none => .bad
  | .p2 p a b, e => (opd a (ev a) e).bind fun a e => (opd b (ev b) e).bind fun b e => match a.res e, b.res e with
    | some a, some b => .opt (p2Sem p a b) e
    | _, _ => .bad
  | .slc a b c, e => (opd a (ev a) e).bind fun a e => (ev b e).bind fun b e => match b.toD with
    | .int i => (ev c e).bind fun c e => (match c.toD with
      | .int j => (match a.res e with
        | some d => .opt (sliceSem d (some i) (some j)) e
        | none => .bad)
      | _ => .bad)
    | _ => .bad
  | .mth p a b, e => (opd a (ev a) e).bind fun a e => match a.res e with
    | some d => if pmTy p d = true then (opd b (ev b) e).bind fun b e => match a.res e, b.res e with
      | some a, some b => .opt (pmSem p a b) e
      | _, _ => .bad
      else .bad
    | none => .bad
  | .chain p q a b c, e => (ev a e).bind fun a e => (ev b e).bind fun b e => match (p2Sem p a.toD b.toD).bind OD.boo with
    | some true => (ev c e).bind fun c e => .opt (p2Sem q b.toD c.toD) e
    | some false => .ok (.s (.bl false)) e
    | none => .bad
  | .and2 a b, e => (ev a e).bind fun a e => match a.boo with
    | some true => ev b e
    | some false => .ok (.s (.bl false)) e
    | none => .bad
  | .or2 a b, e => (ev a e).bind fun a e => match a.boo with
    | some true => .ok (.s (.bl true)) e
    | some false => ev b e
    | none => .bad
  | .not1 a, e => (ev a e).bind fun a e => match a.boo with
    | some b => .ok (.s (.bl !b)) e
    | none => .bad
  | .ife c a b, e => (ev c e).bind fun c e => match c.boo with
    | some true => ev a e
    | some false => ev b e
    | none => .bad
  | .tup l, e => (eva l e).bind fun l e => if l.length ≤ sizeLine then .ok (mkT l) e else .bad
  | .tupK l, e => (eva l e).bind fun l e => match keysO l with
    | some ks => if l.length ≤ sizeLine then .ok (.s (.kt ks)) e else .bad
    | none => .bad
  | .lst l, e => (eva l e).bind fun l e => if l.length ≤ sizeLine then .ok (.ol l) e else .bad
  | .call f l, e => (eva l e).bind fun l e => match C f l with
    | .ok r => .ok r e
    | .exc c => .exc c e
    | .bad => .bad
  | .callv i l, e => match e[i]? with
    | some (some (.s (.clo g ws))) => (eva l e).bind fun l e => (match C g (l ++ ws.map .s) with
      | .ok r => .ok r e
      | .exc c => .exc c e
      | .bad => .bad)
    | _ => .bad
  | .callL f a g js, e => match capE js e with
    | some (ws, e) => (ev a e).bind fun od e => if od.toD.noC && D.noCs ws then (match C f [.s od.toD, .s (.clo g ws)] with
      | .ok r => if r.noC then .ok r e else .bad
      | .exc c => .exc c e
      | .bad => .bad)
      else .bad
    | none => .bad
  | .callB f l, e => (evb l e).bind fun os e => match resTs os e with
    | some ds => (match C f (ds.map .s) with
      | .ok (.s d) => if scaD d then .ok (.s d) e else .bad
      | .exc c => .exc c e
      | _ => .bad)
    | none => .bad
  | .skey f a, e => (ev a e).bind fun a e => match a.toD with
    | .lst l => (match (keysC C f l).bind (sortK l) with
      | some od => .ok od e
      | none => .bad)
    | _ => .bad
  | .glb _ d, e => .ok (.s d) e
  | .pop i, e => match e[i]? with
    | some (some (.ol l)) => (match l.getLast? with
      | some (.s d) => .ok (.s d) (e.set i (some (.ol l.dropLast)))
      | _ => .bad)
    | _ => .bad
  | .upper a, e => (ev a e).bind fun a e => match a.toD with
    | .str x => if x.length ≤ 5592405 then .ok (.s (.str (Txt.upper x))) e else .bad
    | _ => .bad
  | .dnew t, e => .ok (if t then .odt [] else .odk []) e
  | .get3 a k d, e => (opd a (ev a) e).bind fun a e => match a.res e with
    | some (.dk _) => (ev k e).bind fun k e => (match keyD k.toD with
      | some k => (ev d e).bind fun d e => (match a.res e with
        | some (.dk l) => .ok (.s ((valO l k).getD d.toD)) e
        | _ => .bad)
      | none => .bad)
    | some (.dt _) => (ev k e).bind fun k e => (match keyT k.toD with
      | some k => (ev d e).bind fun d e => (match a.res e with
        | some (.dt l) => .ok (.s ((valO l k).getD d.toD)) e
        | _ => .bad)
      | none => .bad)
    | _ => .bad
  | .comp sl own t one it cond elt, e => (evi it e).bind fun l e =>
    match compRun own t one (evo cond) (sealO sl (ev elt)) l [] e with
      | .ok acc e1 => if wipeOk own e && wipeOk own e1 then .ok (.ol acc) (backE e own e1) else .bad
      | _ => .bad
def eva : MAs → Env → Out (List OD)
  | .nil, e => .ok [] e
  | .cons m a l, e => (ev a e).bind fun a e => (eva l e).bind fun l e => .ok ((if m then a else .s a.toD) :: l) e
def evb : MAs → Env → Out (List Opd)
  | .nil, e => .ok [] e
  | .cons _ a l, e => (opd a (ev a) e).bind fun o e => (evb l e).bind fun os e => .ok (o :: os) e
def evo : MO → Env → Out Bool
  | .none, e => .ok true e
  | .some c, e => (ev c e).bind fun a e => .opt (truD a.toD) e
def evi : MI → Env → Out (List D)
  | .seq a, e => (ev a e).bind fun a e => .opt (isq a.toD) e
  | .rng1 a, e => (ev a e).bind fun a e => match a.toD with
    | .int j => if -(2 ^ 62) ≤ j ∧ j < 2 ^ 62 then .ok ((List.range j.toNat).map fun (k : Nat) => .int (k : Nat)) e else .bad
    | _ => .bad
  | .rng2 a b, e => (ev a e).bind fun a e => (ev b e).bind fun b e => match a.toD, b.toD with
    | .int i, .int j => if (-(2 ^ 62) ≤ i ∧ i < 2 ^ 62) ∧ (-(2 ^ 62) ≤ j ∧ j < 2 ^ 62) then .ok ((List.range (j - i).toNat).map fun (k : Nat) => .int (i + (k : Nat))) e else .bad
    | _, _ => .bad
  | .enum a, e => (ev a e).bind fun a e => match a.toD with
    | .lst l => .ok (enumD l) e
    | .tup l => .ok (enumD l) e
    | _ => .bad
  | .keys a, e => (ev a e).bind fun a e => match a.toD with
    | .dk l => .ok (l.map fun p => dkey p.1) e
    | _ => .bad
  | .vals a, e => (ev a e).bind fun a e => match a.toD with
    | .dk l => .ok (l.map fun p => p.2) e
    | _ => .bad
  | .chars a, e => (ev a e).bind fun a e => match a.toD with
    | .str x => .ok (charsD x) e
    | _ => .bad
  | .zip a b, e => (ev a e).bind fun a e => (ev b e).bind fun b e => match a.toD, b.toD with
    | .lst l, .lst r => .ok (zipD l r) e
    | .tup l, .tup r => .ok (zipD l r) e
    | _, _ => .bad
end
end
end MW
namespace MW
open L2 PyProof.Rows PySem.Spec PySem
def keysD : List D → Option (List Key)
  | [] => some []
  | d :: l => match keyD d, keysD l with
    | some x, some r => some (x :: r)
    | _, _ => none
/-- l with k told as v -/
def putO {α β : Type} [DecidableEq α] (l : List (α × β)) (k : α) (v : β) : List (α × β) := match l with
  | [] => [(k, v)]
  | (k', v') :: r => if k' = k then (k', v) :: r else (k', v') :: putO r k v
/-- l with k told as v, as the dict does it -/
def putD {κ β : Type} [DecidableEq κ] (l : List (κ × β)) (k : κ) (v : β) : List (κ × β) := if (l.any fun p => decide (p.1 = k)) = true then l.map fun p => if p.1 = k then (p.1, v) else p else l ++ [(k, v)]
def isOdk : Option (Option OD) → Bool
  | some (some (.odk _)) => true
  | _ => false
/-- x[k] = od -/
def setItemO (x : OD) (k : D) (d : D) : Option OD := match x, k with
  | .ol l, .int i => (ixN l.length i).map fun j => .ol (l.set j (.s d))
  | _, _ => none
def SOut.of {α : Type} (x : Out α) (f : α → Env → SOut) : SOut := match x with
  | .ok a e => f a e
  | .exc c e => .exc c e
  | .bad => .bad
def runFor (t : List Nat) (one : Bool) (body : Env → SOut) : List D → Env → SOut
  | [], e => .nx e
  | d :: ds, e => match setT t one d e with
    | none => .bad
    | some e1 => match body e1 with
      | .nx e2 => runFor t one body ds e2
      | .ct e2 => runFor t one body ds e2
      | .bk e2 => .nx e2
      | .rt r e2 => .rt r e2
      | .exc c e2 => .exc c e2
      | .bad => .bad
def runWhile (test : Env → Out OD) (body : Env → SOut) : Nat → Env → SOut
  | 0, _ => .bad
  | n + 1, e => match test e with
    | .ok od e1 => (match truD od.toD with
      | some true => (match body e1 with
        | .nx e2 => runWhile test body n e2
        | .ct e2 => runWhile test body n e2
        | .bk e2 => .nx e2
        | .rt r e2 => .rt r e2
        | .exc c e2 => .exc c e2
        | .bad => .bad)
      | some false => .nx e1
      | none => .bad)
    | .exc c e1 => .exc c e1
    | .bad => .bad
def isOdt : Option (Option OD) → Bool
  | some (some (.odt _)) => true
  | _ => false
def isFree : Option (Option OD) → Bool
  | some none => true
  | _ => false
def isOl : Option (Option OD) → Bool
  | some (some (.ol _)) => true
  | _ => false
section
variable (C : CallS)
mutual
def ex : MS → Env → SOut
  | .asg i a, e => .of (ev C a e) fun od e => if i < e.length then .nx (e.set i (some od)) else .bad
  | .asgT is a, e => .of (ev C a e) fun od e => match setT is false od.toD e with
    | some e => .nx e
    | none => .bad
  | .exp a, e => .of (ev C a e) fun _ e => .nx e
  | .app sl i a, e => if isOl e[i]? then .of (ev C a e) fun od e => match e[i]? with
    | some (some (.ol l)) => if l.length < sizeLine then .nx (e.set i (some (.ol (l ++ [asArg sl od])))) else .bad
    | _ => .bad
    else .bad
  | .ext i a, e => if isOl e[i]? then .of (ev C a e) fun od e => match e[i]?, od.toD with
    | some (some (.ol l)), .lst r => if l.length + r.length ≤ sizeLine then .nx (e.set i (some (.ol (l ++ r.map .s)))) else .bad
    | some (some (.ol l)), .tup r => if l.length + r.length ≤ sizeLine then .nx (e.set i (some (.ol (l ++ r.map .s)))) else .bad
    | _, _ => .bad
    else .bad
  | .rev i, e => match e[i]? with
    | some (some (.ol l)) => .nx (e.set i (some (.ol l.reverse)))
    | _ => .bad
  | .setI i k a, e => .of (ev C a e) fun od e => if isOl e[i]? then .of (ev C k e) fun kd e => match e[i]? with
    | some (some x) => (match setItemO x kd.toD od.toD with
      | some x' => .nx (e.set i (some x'))
      | none => .bad)
    | _ => .bad
    else .bad
  | .setD i k a, e => .of (ev C a e) fun od e => if isOdk e[i]? then .of (ev C k e) fun kd e => match e[i]?, keyD kd.toD with
    | some (some (.odk l)), some k => if l.length < sizeLine then .nx (e.set i (some (.odk (putD l k (.s od.toD))))) else .bad
    | _, _ => .bad
    else .bad
  | .setDT i k a, e => .of (ev C a e) fun od e => if isOdt e[i]? then .of (ev C k e) fun kd e => match e[i]?, keyT kd.toD with
    | some (some (.odt l)), some k => if l.length < sizeLine then .nx (e.set i (some (.odt (putD l k (.s od.toD))))) else .bad
    | _, _ => .bad
    else .bad
  | .setDN i k, e => if isOdk e[i]? then .of (ev C k e) fun kd e => match e[i]?, keyD kd.toD with
    | some (some (.odk l)), some k => if l.length < sizeLine ∧ valO l k = none then .nx (e.set i (some (.odk (l ++ [(k, .odk [])])))) else .bad
    | _, _ => .bad
    else .bad
  | .setDD i j1 j2 a, e => .of (ev C a e) fun od e => match e[i]?, e[j1]?, e[j2]? with
    | some (some (.odk l)), some (some (.s d1)), some (some (.s d2)) => (match keyD d1, keyD d2 with
      | some k1, some k2 => (match valO l k1 with
        | some (.odk l2) => if l2.length < sizeLine then .nx (e.set i (some (.odk (putO l k1 (.odk (putD l2 k2 (.s od.toD))))))) else .bad
        | _ => .bad)
      | _, _ => .bad)
    | _, _, _ => .bad
  | .aug i a, e => match e[i]? with
    | some (some (.s (.int x))) => .of (ev C a e) fun od e => (match od.toD with
      | .int y => if i < e.length then .nx (e.set i (some (.s (.int (x + y))))) else .bad
      | _ => .bad)
    | _ => .bad
  | .ifs c a b, e => .of (ev C c e) fun od e => match truD od.toD with
    | some true => exs a e
    | some false => exs b e
    | none => .bad
  | .whl n c b, e => runWhile (ev C c) (exs b) n e
  | .for_ t one it b, e => .of (evi C it e) fun l e => runFor t one (exs b) l e
  | .ret a, e => .of (ev C a e) fun od e => .rt od e
  | .retN, e => .rt (.s .non) e
  | .retL f a g js, e => .of (ev C (.callL f a g js) e) fun od e => .rt od e
  | .brk, e => .bk e
  | .cnt, e => .ct e
  | .pas, e => .nx e
  | .nev, e => .bad
  | .rai k, e => .exc k e
  | .tryR b i js h, e => match exs b e with
    | .exc j e1 => if j ∈ js then .rt (.s (hsev (relE j) h).d) e1 else .bad
    | o => o
def exs : MSs → Env → SOut
  | .nil, e => .nx e
  | .cons s l, e => match ex s e with
    | .nx e => exs l e
    | r => r
  | .defC j f a g js, e => if isFree e[j]? then .of (ev C (.callL f a g js) e) fun od e => .rt od e else .bad
end
end
/-- a def: how many parameters, how many slots, its body -/
structure Fn where
  np : Nat
  ns : Nat
  body : MSs
def callF (C : CallS) (f : Fn) (ods : List OD) : CRes :=
  if ods.length = f.np then match exs C f.body (ods.map some ++ List.replicate (f.ns - f.np) none) with
    | .nx _ => .ok (.s .non)
    | .rt r _ => .ok r
    | .exc c _ => .exc c
    | _ => .bad
  else .bad
/-- the calls, at most d of them one in another -/
def evG (T : Nat → Option Fn) : Nat → CallS
  | 0, _, _ => .bad
  | d + 1, f, ods => match T f with
    | some fn => callF (evG T d) fn ods
    | none => .bad
@[irreducible] def evF (T : Nat → Option Fn) (d : Nat) : CallS := evG T d
theorem evF_zero {T : Nat → Option Fn} {f : Nat} {ods : List OD} : evF T 0 f ods = .bad := by
  unfold evF
  rfl
theorem evF_succ {T : Nat → Option Fn} {d f : Nat} {ods : List OD} : evF T (d + 1) f ods = match T f with
    | some fn => callF (evF T d) fn ods
    | none => .bad := by
  unfold evF
  rfl
end MW
namespace MW
open L2 PyProof.Rows PySem.Spec PySem
/-! ### the module at hand -/
structure Mo where
  P : Program
  w : World
  K : PySem.W.Frag
  mg : Str → Option Value
  base : Heap
/-- the built-in names that the program uses, none of them bound by the module -/
def bltNames : List Str := ["len", "list", "tuple", "str", "int", "bool", "isinstance", "all", "any", "min", "max", "sum", "sorted", "range", "enumerate", "zip", "set", "dict", "reversed", "abs"]
structure Ctx (M : Mo) (c : RC) (Ex : XK) (N : List Str) (sc : Scope) (top : Bool) (lvl : Nat) (X : Cx) : Prop where
  p : X.prog = M.P
  w : X.w = M.w
  k : X.K = M.K
  mg : X.mg = M.mg
  base : X.base = M.base
  ck : c.K = M.K
  n : X.N = N
  nd : N.Nodup
  sc : X.env.scope = sc
  calm : X.calm = true
  room : Room (lvl + 1) X.A
  fn : top = true → ∀ x, X.fn x = true ∨ X.env.scope.names.lookup x ≠ some .cell
  st : top = true → X.stack = X.env :: X.outer
  fr : top = true → X.env.frame = some X.env.locals
  po : PassesOwn (model X.prog X.w) X.A X.env X.xe
  tk : L2N.Takes X (fun cls d _ H => Ex cls d H)
  bl : ∀ x, x ∈ bltNames → M.mg x = none
  tab : top = true → ∀ P q nm, (P, q, nm) ∈ c.tabs → q ∈ N → q = X.env.qual ++ nm ∧ ∃ c0, X.env.code = .ref c0 ∧ LamX.TabB X.base X.mg c0 P
/-! ### weakening -/
theorem PE.weak {X : Cx} {e : Expr} {t t' : TE} (h : PE X e t) (w : ∀ σ H Q, t' σ H Q → t σ H Q) : PE X e t' := ⟨fun pins s σ H Q I q => h.run pins s σ H Q I (w σ H Q q)⟩
theorem PT.weak {X : Cx} {e : Expr} {t t' : TT} (h : PT X e t) (w : ∀ σ H Q, t' σ H Q → t σ H Q) : PT X e t' := ⟨fun pins s σ H Q I q => h.run pins s σ H Q I (w σ H Q q)⟩
theorem PW.weak {X : Cx} {e : Expr} {t t' : TT} (h : PW X e t) (w : ∀ σ H Q, t' σ H Q → t σ H Q) : PW X e t' := ⟨fun wh pins s σ H Q I q => h.run wh pins s σ H Q I (w σ H Q q)⟩
theorem PA.weak {X : Cx} {e : List Expr} {t t' : TA} (h : PA X e t) (w : ∀ σ H Q, t' σ H Q → t σ H Q) : PA X e t' := ⟨fun pos pins s σ H Q I q => h.run pos pins s σ H Q I (w σ H Q q)⟩
theorem PS.weak {X : Cx} {e : Stmt} {t t' : TS} (h : PS X e t) (w : ∀ D σ H, t' D σ H → t D σ H) : PS X e t' := ⟨fun pins s σ H D I q => h.run pins s σ H D I (w D σ H q)⟩
theorem PSs.weak {X : Cx} {e : List Stmt} {t t' : TS} (h : PSs X e t) (w : ∀ D σ H, t' D σ H → t D σ H) : PSs X e t' := ⟨fun pins s σ H D I q => h.run pins s σ H D I (w D σ H q)⟩
theorem PI.weak {X : Cx} {tg e : Expr} {t t' : TI} (h : PI X tg e t) (w : ∀ σ H Q, t' σ H Q → t σ H Q) : PI X tg e t' := ⟨fun pins s σ H Q I q => h.run pins s σ H Q I (w σ H Q q)⟩
theorem PG.weak {X : Cx} {e : Expr} {t t' : TG} (h : PG X e t) (w : ∀ v σ H Q, t' v σ H Q → t v σ H Q) : PG X e t' := ⟨fun pins s σ H v u Q I r q => h.run pins s σ H v u Q I r (w v σ H Q q)⟩
/-- a reading that holds in one of several ways -/
theorem PE.ex {ι : Sort _} {X : Cx} {e : Expr} {t : ι → TE} (h : ∀ i, PE X e (t i)) : PE X e (fun σ H Q => ∃ i, t i σ H Q) := ⟨fun pins s σ H Q I ⟨i, q⟩ => (h i).run pins s σ H Q I q⟩
/-! ### readings by the evaluator -/
section
variable (c : RC) (Ex : XK)
/-- what stands behind a computation: its own part Fr of the heap, beside the slots' -/
abbrev Rep (α β : Type) := L2.St → Hp → Hp → α → β → List Addr → Prop
def rdB {α β : Type} (HB GB : Hp) (FB : List Addr) (rep : Rep α β) (r : Out α) (σ : L2.St) (Q : β → Hp → Prop) : Prop := match r with
  | .ok a e => ∀ b H G F Fr, SIM c σ H G F e → Step HB GB FB H G (F ++ Fr) → rep σ H G a b Fr → (F ++ Fr).Nodup → (∀ x ∈ Fr, G x = none) → Q b H
  | .exc k e => ∀ H G F, SIM c σ H G F e → Step HB GB FB H G F → Ex (.ref (c.cl k)) none H
  | .bad => False
def rdX {α β : Type} (rep : Rep α β) (f : Env → Out α) : L2.St → Hp → (β → Hp → Prop) → Prop := fun σ H Q =>
  ∃ G F e, SIM c σ H G F e ∧ rdB c Ex H G F rep (f e) σ Q
def repO : Rep OD V := fun _ H G od v F => RO c H G od v F
def repS : Rep OD V := fun _ _ G od v F => F = [] ∧ RS c G od.toD v
def repP : Rep Opd V := fun σ _ G o v F => F = [] ∧ match o with
  | .v d => RS c G d v
  | .at i => σ[i]? = some (some v)
def repA : Rep (List OD) (List V) := fun _ H G ods vs F => ROL c H G ods vs F
def repB : Rep Bool Bool := fun _ _ _ a b F => F = [] ∧ a = b
end
section
variable {c : RC} {Ex : XK}
theorem SIM.gsub {σ : L2.St} {H G : Hp} {F : List Addr} {e : Env} (h : SIM c σ H G F e) : ∀ a, G a ≠ none → H a ≠ none := fun a q z => by
  cases x : G a with
  | none => exact q x
  | some o =>
    rcases h.sub a o x with ⟨y, _⟩ | ⟨_, ob, y⟩ | ⟨_, _, _, y, _⟩ <;> rw [z] at y <;> cases y
/-- what stands at owned places is there -/
theorem RO.there {H G : Hp} : ∀ {d : OD} {v : V} {F : List Addr}, RO c H G d v F → ∀ a ∈ F, ∃ o, H a = some o ∧ nt o := by
  have key : (∀ d : OD, ∀ (v : V) (F : List Addr), RO c H G d v F → ∀ a ∈ F, ∃ o, H a = some o ∧ nt o) := by
    intro d
    refine OD.rec (motive_1 := fun d => ∀ (v : V) (F : List Addr), RO c H G d v F → ∀ a ∈ F, ∃ o, H a = some o ∧ nt o)
      (motive_2 := fun l => ∀ (xs : List V) (F : List Addr), ROL c H G l xs F → ∀ a ∈ F, ∃ o, H a = some o ∧ nt o)
      (motive_3 := fun l => ∀ (xs : List (Key × V)) (F : List Addr), ROK c H G l xs F → ∀ a ∈ F, ∃ o, H a = some o ∧ nt o)
      (motive_4 := fun l => ∀ (xs : List (List Key × V)) (F : List Addr), ROT c H G l xs F → ∀ a ∈ F, ∃ o, H a = some o ∧ nt o)
      (motive_5 := fun l => ∀ (xs : List (Str × V)) (F : List Addr), ROF c H G l xs F → ∀ a ∈ F, ∃ o, H a = some o ∧ nt o)
      (motive_6 := fun p => ∀ (v : V) (F : List Addr), RO c H G p.2 v F → ∀ a ∈ F, ∃ o, H a = some o ∧ nt o)
      (motive_7 := fun p => ∀ (v : V) (F : List Addr), RO c H G p.2 v F → ∀ a ∈ F, ∃ o, H a = some o ∧ nt o)
      (motive_8 := fun p => ∀ (v : V) (F : List Addr), RO c H G p.2 v F → ∀ a ∈ F, ∃ o, H a = some o ∧ nt o) ?_ ?_ ?_ ?_ ?_ ?_ ?_ ?_ ?_ ?_ ?_ ?_ ?_ ?_ ?_ ?_ ?_ d
    · intro d v F h a ha; simp only [RO] at h; rw [h.2] at ha; cases ha
    · intro l ih v F h a ha
      simp only [RO] at h
      obtain ⟨p, xs, F1, rfl, q, r, rfl⟩ := h
      rcases List.mem_cons.mp ha with rfl | ha
      · exact ⟨_, q, trivial⟩
      · exact ih xs F1 r a ha
    · intro l ih v F h a ha
      simp only [RO] at h
      obtain ⟨p, xs, F1, rfl, q, r, rfl⟩ := h
      rcases List.mem_cons.mp ha with rfl | ha
      · exact ⟨_, q, trivial⟩
      · exact ih xs F1 r a ha
    · intro l ih v F h a ha
      simp only [RO] at h
      obtain ⟨p, xs, F1, rfl, q, r, rfl⟩ := h
      rcases List.mem_cons.mp ha with rfl | ha
      · exact ⟨_, q, trivial⟩
      · exact ih xs F1 r a ha
    · intro l ih v F h a ha
      simp only [RO] at h
      obtain ⟨p, xs, F1, rfl, q, r, rfl⟩ := h
      rcases List.mem_cons.mp ha with rfl | ha
      · exact ⟨_, q, trivial⟩
      · exact ih xs F1 r a ha
    · intro k l ih v F h a ha
      simp [RO] at h
    · intro xs F h a ha; simp only [ROL] at h; rw [h.2] at ha; cases ha
    · intro o l i1 i2 xs F h a ha
      simp only [ROL] at h
      obtain ⟨x, r, F1, F2, rfl, rfl, p, q⟩ := h
      rcases List.mem_append.mp ha with ha | ha
      · exact i1 _ _ p a ha
      · exact i2 _ _ q a ha
    · intro xs F h a ha; simp only [ROK] at h; rw [h.2] at ha; cases ha
    · intro o l i1 i2 xs F h a ha
      obtain ⟨k, o⟩ := o
      simp only [ROK] at h
      obtain ⟨x, r, F1, F2, rfl, rfl, p, q⟩ := h
      rcases List.mem_append.mp ha with ha | ha
      · exact i1 _ _ p a ha
      · exact i2 _ _ q a ha
    · intro xs F h a ha; simp only [ROT] at h; rw [h.2] at ha; cases ha
    · intro o l i1 i2 xs F h a ha
      obtain ⟨k, o⟩ := o
      simp only [ROT] at h
      obtain ⟨x, r, F1, F2, rfl, rfl, p, q⟩ := h
      rcases List.mem_append.mp ha with ha | ha
      · exact i1 _ _ p a ha
      · exact i2 _ _ q a ha
    · intro xs F h a ha; simp only [ROF] at h; rw [h.2] at ha; cases ha
    · intro o l i1 i2 xs F h a ha
      obtain ⟨k, o⟩ := o
      simp only [ROF] at h
      obtain ⟨x, r, F1, F2, rfl, rfl, p, q⟩ := h
      rcases List.mem_append.mp ha with ha | ha
      · exact i1 _ _ p a ha
      · exact i2 _ _ q a ha
    · intro k o ih; exact ih
    · intro k o ih; exact ih
    · intro k o ih; exact ih
  intro d v F h; exact key d v F h
theorem ROL.there {H G : Hp} : ∀ {l : List OD} {xs : List V} {F : List Addr}, ROL c H G l xs F → ∀ a ∈ F, ∃ o, H a = some o ∧ nt o
  | [], xs, F, h, a, ha => by simp only [ROL] at h; rw [h.2] at ha; cases ha
  | d :: l, xs, F, h, a, ha => by
    simp only [ROL] at h
    obtain ⟨x, r, F1, F2, rfl, rfl, p, q⟩ := h
    rcases List.mem_append.mp ha with ha | ha
    · exact RO.there p a ha
    · exact ROL.there q a ha
/-- owned places are plain -/
theorem RO.seqs {H G : Hp} : ∀ {d : OD} {v : V} {F : List Addr}, RO c H G d v F → ∀ a ∈ F, ∃ o, H a = some o ∧ seqO o := by
  have key : (∀ d : OD, ∀ (v : V) (F : List Addr), RO c H G d v F → ∀ a ∈ F, ∃ o, H a = some o ∧ seqO o) := by
    intro d
    refine OD.rec (motive_1 := fun d => ∀ (v : V) (F : List Addr), RO c H G d v F → ∀ a ∈ F, ∃ o, H a = some o ∧ seqO o)
      (motive_2 := fun l => ∀ (xs : List V) (F : List Addr), ROL c H G l xs F → ∀ a ∈ F, ∃ o, H a = some o ∧ seqO o)
      (motive_3 := fun l => ∀ (xs : List (Key × V)) (F : List Addr), ROK c H G l xs F → ∀ a ∈ F, ∃ o, H a = some o ∧ seqO o)
      (motive_4 := fun l => ∀ (xs : List (List Key × V)) (F : List Addr), ROT c H G l xs F → ∀ a ∈ F, ∃ o, H a = some o ∧ seqO o)
      (motive_5 := fun l => ∀ (xs : List (Str × V)) (F : List Addr), ROF c H G l xs F → ∀ a ∈ F, ∃ o, H a = some o ∧ seqO o)
      (motive_6 := fun p => ∀ (v : V) (F : List Addr), RO c H G p.2 v F → ∀ a ∈ F, ∃ o, H a = some o ∧ seqO o)
      (motive_7 := fun p => ∀ (v : V) (F : List Addr), RO c H G p.2 v F → ∀ a ∈ F, ∃ o, H a = some o ∧ seqO o)
      (motive_8 := fun p => ∀ (v : V) (F : List Addr), RO c H G p.2 v F → ∀ a ∈ F, ∃ o, H a = some o ∧ seqO o) ?_ ?_ ?_ ?_ ?_ ?_ ?_ ?_ ?_ ?_ ?_ ?_ ?_ ?_ ?_ ?_ ?_ d
    · intro d v F h a ha; simp only [RO] at h; rw [h.2] at ha; cases ha
    · intro l ih v F h a ha
      simp only [RO] at h
      obtain ⟨p, xs, F1, rfl, q, r, rfl⟩ := h
      rcases List.mem_cons.mp ha with rfl | ha
      · exact ⟨_, q, trivial⟩
      · exact ih xs F1 r a ha
    · intro l ih v F h a ha
      simp only [RO] at h
      obtain ⟨p, xs, F1, rfl, q, r, rfl⟩ := h
      rcases List.mem_cons.mp ha with rfl | ha
      · exact ⟨_, q, trivial⟩
      · exact ih xs F1 r a ha
    · intro l ih v F h a ha
      simp only [RO] at h
      obtain ⟨p, xs, F1, rfl, q, r, rfl⟩ := h
      rcases List.mem_cons.mp ha with rfl | ha
      · exact ⟨_, q, trivial⟩
      · exact ih xs F1 r a ha
    · intro l ih v F h a ha
      simp only [RO] at h
      obtain ⟨p, xs, F1, rfl, q, r, rfl⟩ := h
      rcases List.mem_cons.mp ha with rfl | ha
      · exact ⟨_, q, trivial⟩
      · exact ih xs F1 r a ha
    · intro k l ih v F h a ha
      simp [RO] at h
    · intro xs F h a ha; simp only [ROL] at h; rw [h.2] at ha; cases ha
    · intro o l i1 i2 xs F h a ha
      simp only [ROL] at h
      obtain ⟨x, r, F1, F2, rfl, rfl, p, q⟩ := h
      rcases List.mem_append.mp ha with ha | ha
      · exact i1 _ _ p a ha
      · exact i2 _ _ q a ha
    · intro xs F h a ha; simp only [ROK] at h; rw [h.2] at ha; cases ha
    · intro o l i1 i2 xs F h a ha
      obtain ⟨k, o⟩ := o
      simp only [ROK] at h
      obtain ⟨x, r, F1, F2, rfl, rfl, p, q⟩ := h
      rcases List.mem_append.mp ha with ha | ha
      · exact i1 _ _ p a ha
      · exact i2 _ _ q a ha
    · intro xs F h a ha; simp only [ROT] at h; rw [h.2] at ha; cases ha
    · intro o l i1 i2 xs F h a ha
      obtain ⟨k, o⟩ := o
      simp only [ROT] at h
      obtain ⟨x, r, F1, F2, rfl, rfl, p, q⟩ := h
      rcases List.mem_append.mp ha with ha | ha
      · exact i1 _ _ p a ha
      · exact i2 _ _ q a ha
    · intro xs F h a ha; simp only [ROF] at h; rw [h.2] at ha; cases ha
    · intro o l i1 i2 xs F h a ha
      obtain ⟨k, o⟩ := o
      simp only [ROF] at h
      obtain ⟨x, r, F1, F2, rfl, rfl, p, q⟩ := h
      rcases List.mem_append.mp ha with ha | ha
      · exact i1 _ _ p a ha
      · exact i2 _ _ q a ha
    · intro k o ih; exact ih
    · intro k o ih; exact ih
    · intro k o ih; exact ih
  intro d v F h; exact key d v F h
theorem ROL.seqs {H G : Hp} : ∀ {l : List OD} {xs : List V} {F : List Addr}, ROL c H G l xs F → ∀ a ∈ F, ∃ o, H a = some o ∧ seqO o
  | [], xs, F, h, a, ha => by simp only [ROL] at h; rw [h.2] at ha; cases ha
  | d :: l, xs, F, h, a, ha => by
    simp only [ROL] at h
    obtain ⟨x, r, F1, F2, rfl, rfl, p, q⟩ := h
    rcases List.mem_append.mp ha with ha | ha
    · exact RO.seqs p a ha
    · exact ROL.seqs q a ha
/-- shared: G grown by the part Fr of H -/
def shr (G H : Hp) (Fr : List Addr) : Hp := fun a => if a ∈ Fr then H a else G a
theorem shr_le {G H : Hp} {Fr : List Addr} (h : ∀ a ∈ Fr, G a = none) : Gle G (shr G H Fr) := Gle.of fun a o q => by
  unfold shr
  split
  · rename_i z; rw [h a z] at q; cases q
  · exact q
theorem shr_agree {G H : Hp} {Fr : List Addr} : AgreeOn Fr H (shr G H Fr) := fun a ha o q => by
  unfold shr; rw [if_pos ha]; exact q
theorem agree_sub {H G G' : Hp} {F : List Addr} (e : G = G') : True := trivial
theorem SIM.share {σ : L2.St} {H G HB GB : Hp} {F Fr FB : List Addr} {e : Env} (s : SIM c σ H G F e) (st : Step HB GB FB H G (F ++ Fr)) (nd : (F ++ Fr).Nodup) (fr : ∀ x ∈ Fr, G x = none) (hs : ∀ a ∈ Fr, ∃ o, H a = some o ∧ seqO o) :
    SIM c σ H (shr G H Fr) F e ∧ Step HB GB FB H (shr G H Fr) F := by
  have dis : ∀ a ∈ F, a ∉ Fr := fun a h1 h2 => (List.nodup_append.mp nd).2.2 a h1 a h2 rfl
  refine ⟨⟨fun a o q => ?_, REnv.mono (shr_le fr) (fun a _ o q => q) s.ren, s.nd, fun a ha => ?_⟩, (fun a o q n hf gn => st.keep a o q n hf ((shr_le fr).some gn)), st.some, st.gle.trans (shr_le fr), fun a ha => st.fF a (List.mem_append_left _ ha), fun a q => ?_⟩
  · unfold shr at q
    split at q
    · rename_i z
      obtain ⟨o2, h2, h3⟩ := hs a z
      rw [q] at h2
      cases h2
      exact .inl ⟨q, nm_of h3⟩
    · exact (s.sub a o q).imp id (Or.imp id fun ⟨y, z, t⟩ => ⟨y, z, t.mono (shr_le fr)⟩)
  · unfold shr; rw [if_neg (dis a ha)]; exact s.gf a ha
  · unfold shr at q
    split at q
    · rename_i z; exact .inr (st.fF a (List.mem_append_right _ z))
    · exact st.fG a q
/-- the value as shared data -/
theorem rdE_S {f : Env → Out OD} {σ : L2.St} {H : Hp} {Q : V → Hp → Prop} (h : rdX c Ex (repS c) f σ H Q) : rdX c Ex (repO c) f σ H Q := by
  obtain ⟨G, F, e, s, r⟩ := h
  refine ⟨G, F, e, s, ?_⟩
  revert r
  cases f e with
  | ok a e1 =>
    intro r b H' G' F' Fr s1 st rep nd fr
    obtain ⟨s2, st2⟩ := s1.share st nd fr (RO.seqs rep)
    exact r b H' _ F' [] s2 (by simpa using st2) ⟨rfl, RO.share (shr_le fr) shr_agree rep⟩ (by simpa using s2.nd) (fun _ z => by cases z)
  | exc k e1 => exact fun r => r
  | bad => exact fun r => r
end
end MW
namespace MW
open L2 PyProof.Rows PySem.Spec PySem
/-! ### matching our data with the text -/
/-- what the module's names stand for: defs by number, constants -/
structure Nm where
  f : Nat → Option Str
  g : Str → Option D
  c : Nat → Option Str
  h : Nat → Str → Bool
  w : Nat → Option (Str × List (Str × Str))
  /-- functions made within a def: full name, last part, what they capture -/
  li : Nat → Option (Str × Str × List Str) := fun _ => none
  /-- the lambda of this number (in the scope of its maker) -/
  le : Nat → Scope → Expr → Bool := fun _ _ _ => false
  /-- the nested def of this number -/
  de : Nat → Scope → Stmt → Bool := fun _ _ _ => false
instance : CoeFun Nm (fun _ => Nat → Option Str) := ⟨Nm.f⟩
/-- two names, one in the other -/
def p1Nest : P1 → Option (Str × Str)
  | .tupRng => some ("tuple", "range")
  | .lenSet => some ("len", "set")
  | _ => none
def gl (sc : Scope) (x : Str) : Bool := decide (sc.names.lookup x = some .globalImplicit)
def slotOk (N : List Str) (sc : Scope) (i : Nat) (x : Str) : Bool :=
  decide (N[i]? = some x) && (decide (sc.names.lookup x = some .local) || decide (sc.names.lookup x = some .cell) || decide (sc.names.lookup x = some .free)) && decide ((x == ("__debug__" : Str)) = false) && decide ((x == ("__classdict__" : Str)) = false)
def storeOk (N : List Str) (sc : Scope) (top : Bool) (i : Nat) (x : Str) : Bool :=
  decide (N[i]? = some x) && (decide (sc.names.lookup x = some .local) || (top && decide (sc.names.lookup x = some .cell)))
def p1Name : P1 → Option Str
  | .len => some "len"
  | .listOf => some "list"
  | .tupOf => some "tuple"
  | .tupX => some "tuple"
  | .strOf => some "str"
  | .intOf => some "int"
  | .allL => some "all"
  | .anyL => some "any"
  | .minL => some "min"
  | .maxL => some "max"
  | .sumL => some "sum"
  | .sorted => some "sorted"
  | _ => none
def p1Ty : P1 → Option Str
  | .isTup => some "tuple"
  | .isInt => some "int"
  | .isBool => some "bool"
  | .isStr => some "str"
  | .isList => some "list"
  | _ => none
def p2Bin : P2 → Option Operator
  | .add => some .Add
  | .sub => some .Sub
  | .mul => some .Mult
  | .mod => some .Mod
  | .fdiv => some .FloorDiv
  | .pow => some .Pow
  | .shl => some .LShift
  | .shr => some .RShift
  | .band => some .BitAnd
  | _ => none
def p2Cmp : P2 → Option CmpOp
  | .eq => some .Eq
  | .ne => some .NotEq
  | .lt => some .Lt
  | .le => some .LtE
  | .gt => some .Gt
  | .ge => some .GtE
  | .inn => some .In
  | .notin => some .NotIn
  | .isnt => some .IsNot
  | .iss => some .Is
  | _ => none
def p2Name : P2 → Option Str
  | .max2 => some "max"
  | .min2 => some "min"
  | _ => none
def noSlice : Expr → Bool
  | .Slice .. => false
  | _ => true
section
variable (fn : Nm) (N : List Str)
def tgtOk (N : List Str) (sc : Scope) (top : Bool) : List Nat → List Expr → Bool
  | [], [] => true
  | i :: is, .Name x _ :: es => storeOk N sc top i x && tgtOk N sc top is es
  | _, _ => false
def mT (N : List Str) (sc : Scope) (top : Bool) (t : List Nat) (one : Bool) (tg : Expr) : Bool := match one, t, tg with
  | true, [i], .Name x _ => storeOk N sc top i x
  | false, is, .Tuple es _ _ => tgtOk N sc top is es
  | _, _, _ => false
def mNest (p : P1) (sc : Scope) (r : Expr → Bool) (f : Str) : Expr → Bool
  | .Call (.Name g _) [x] [] _ => gl sc f && gl sc g && decide (p1Nest p = some (f, g)) && r x
  | _ => false
/-- the forms of one operand: r matches the operand -/
def m1 (p : P1) (sc : Scope) (r : Expr → Bool) : Expr → Bool
  | .UnaryOp op x _ => (match p, op with | .neg, .USub => r x | _, _ => false)
  | .Compare x [op] [y] _ => (match p, op, y with | .isNone, .Is, .Constant .none _ _ => r x | .notNone, .IsNot, .Constant .none _ _ => r x | _, _, _ => false)
  | .Call (.Name f _) [x] [] _ => if (p1Nest p).isSome then mNest p sc r f x else gl sc f && decide (p1Name p = some f) && r x
  | .Call (.Name f _) [x, .Name T _] [] _ => gl sc f && gl sc T && decide (f = ("isinstance" : Str)) && decide (p1Ty p = some T) && r x
  | _ => false
def isIdx : P2 → Bool
  | .idx => true
  | .idxx => true
  | _ => false
def isLo : P2 → Bool
  | .sliceLo => true
  | _ => false
def isHi : P2 → Bool
  | .sliceHi => true
  | _ => false
/-- a subscript -/
def mSub (p : P2) (ra rb : Expr → Bool) (x : Expr) : Expr → Bool
  | .Slice (some y) none none _ => isLo p && ra x && rb y
  | .Slice none (some y) none _ => isHi p && ra x && rb y
  | y => isIdx p && ra x && rb y && noSlice y
def m2 (p : P2) (sc : Scope) (ra rb : Expr → Bool) : Expr → Bool
  | .BinOp x op y _ => decide (p2Bin p = some op) && ra x && rb y
  | .Compare x [op] [y] _ => decide (p2Cmp p = some op) && !behindInMarks op y && ra x && rb y
  | .Subscript x y _ => mSub p ra rb x y
  | .Call (.Name f _) [x, y] [] _ => gl sc f && decide (p2Name p = some f) && ra x && rb y
  | _ => false
def pmName : PM → Str
  | .join => "join"
  | .tindex => "index"
def mMth (p : PM) (ra rb : Expr → Bool) : Expr → Bool
  | .Call (.Attribute x m apos) [y] [] pos => decide (m = pmName p) && decide ((apos.endLine == pos.line) = true) && ra x && rb y
  | _ => false
def mSlc (ra rb rc : Expr → Bool) : Expr → Bool
  | .Subscript x (.Slice (some y) (some z) none _) _ => ra x && rb y && rc z
  | _ => false
def mCh (p q : P2) (ra rb rc : Expr → Bool) : Expr → Bool
  | .Compare x [o1, o2] [y, z] _ => decide (p2Cmp p = some o1) && decide (p2Cmp q = some o2) && !behindInMarks o1 y && !behindInMarks o2 z && ra x && rb y && rc z
  | _ => false
def mBool (op : BoolOp) (ra rb : Expr → Bool) : Expr → Bool
  | .BoolOp o (x :: y :: r) pos => decide (o = op) && ra x && (match r with | [] => rb y | _ => rb (.BoolOp o (y :: r) pos))
  | _ => false
def mNot (ra : Expr → Bool) : Expr → Bool
  | .UnaryOp .Not x _ => ra x
  | _ => false
def mIfe (rc ra rb : Expr → Bool) : Expr → Bool
  | .IfExp t x y _ => rc t && ra x && rb y
  | _ => false
def mName (N : List Str) (sc : Scope) (i : Nat) : Expr → Bool
  | .Name x _ => slotOk N sc i x
  | _ => false
def mConst (P : Const → Bool) : Expr → Bool
  | .Constant k _ _ => P k
  | _ => false
def mTup (r : List Expr → Bool) : Expr → Bool
  | .Tuple es _ _ => r es
  | _ => false
def mLst (r : List Expr → Bool) : Expr → Bool
  | .List es _ => r es
  | _ => false
def mCall (sc : Scope) (n : Option Str) (r : List Expr → Bool) : Expr → Bool
  | .Call (.Name x _) (e :: es) [] _ => gl sc x && decide (n = some x) && decide ((x == ("__debug__" : Str)) = false) && r (e :: es)
  | _ => false
def mCallv (N : List Str) (sc : Scope) (i : Nat) (r : List Expr → Bool) : Expr → Bool
  | .Call (.Name x _) (e :: es) [] _ => slotOk N sc i x && r (e :: es)
  | _ => false
def capOk (fn : Nm) (N : List Str) (g : Nat) (js : List Nat) : Bool := match fn.li g with
  | some (q, _, fr) => decide (q ∈ N) && decide (js.map (fun j => N[j]?) = fr.map some)
  | none => false
def mCallL (fn : Nm) (N : List Str) (sc : Scope) (n : Option Str) (g : Nat) (js : List Nat) (r : Expr → Bool) : Expr → Bool
  | .Call (.Name x _) [e, z] [] _ => gl sc x && decide (n = some x) && decide ((x == ("__debug__" : Str)) = false) && r e && fn.le g sc z && capOk fn N g js
  | _ => false
def mSkey (sc : Scope) (n : Option Str) (r : Expr → Bool) : Expr → Bool
  | .Call (.Name s _) [x] [⟨some k, .Name g _, _⟩] _ => gl sc s && decide (s = ("sorted" : Str)) && decide (k = ("key" : Str)) && gl sc g && decide (n = some g) && decide ((g == ("__debug__" : Str)) = false) && r x
  | _ => false
def mComp (sc : Scope) (own t : List Nat) (one : Bool) (ri : Expr → Expr → Bool) (rc : Scope → List Expr → Bool) (re : Scope → Expr → Bool) : Expr → Bool
  | .ListComp x [⟨tg, iter, ifs, 0⟩] scope _ =>
    decide (own.all fun i => (N[i]?).isSome) && blkC N sc scope (own.map fun i => (N.getD i Str.empty, i)) && mT N scope true t one tg && t.all (fun i => own.contains i) && ri tg iter && rc (relS scope sc) ifs && re (relS scope sc) x
  | _ => false
/-- a constant of the module -/
def constD : D → Bool
  | .int _ => true
  | .str _ => true
  | _ => false
def eqC : D → D → Bool
  | .int i, .int j => decide (i = j)
  | .str i, .str j => decide (i = j)
  | _, _ => false
def mGlb (sc : Scope) (y : Str) (d : D) : Expr → Bool
  | .Name x _ => gl sc x && decide (x = y) && (match fn.g y with | some d' => eqC d' d | none => false) && !(x == ("__debug__" : Str))
  | _ => false
def mDnew : Expr → Bool
  | .Dict [] [] _ => true
  | _ => false
def mGet3 (ra rk rd : Expr → Bool) : Expr → Bool
  | .Call (.Attribute x m apos) [y, z] [] pos => decide (m = ("get" : Str)) && decide ((apos.endLine == pos.line) = true) && ra x && rk y && rd z
  | _ => false
def mVals (r : Expr → Bool) : Expr → Bool
  | .Call (.Attribute x m apos) [] [] pos => decide (m = ("values" : Str)) && decide ((apos.endLine == pos.line) = true) && r x
  | _ => false
def mPop (N : List Str) (sc : Scope) (i : Nat) : Expr → Bool
  | .Call (.Attribute (.Name x _) m apos) [] [] pos => slotOk N sc i x && decide (m = ("pop" : Str)) && decide ((apos.endLine == pos.line) = true)
  | _ => false
def mUpper (r : Expr → Bool) : Expr → Bool
  | .Call (.Attribute x m apos) [] [] pos => decide (m = ("upper" : Str)) && decide ((apos.endLine == pos.line) = true) && r x
  | _ => false
def isTupE : Expr → Bool
  | .Tuple .. => true
  | _ => false
def mRng1 (sc : Scope) (f0 : Str) (r : Expr → Bool) : Expr → Bool
  | .Call (.Name f _) [x] [] _ => gl sc f && decide (f = f0) && r x
  | _ => false
def mRng2 (sc : Scope) (f0 : Str) (ra rb : Expr → Bool) : Expr → Bool
  | .Call (.Name f _) [x, y] [] _ => gl sc f && decide (f = f0) && ra x && rb y
  | _ => false
mutual
def mE : ME → Scope → Expr → Bool
  | .var i, sc, x => mName N sc i x
  | .mov i, sc, x => mName N sc i x
  | .bv i, sc, x => mName N sc i x
  | .cint i, _, x => mConst (fun k => decide (k = .int i)) x
  | .cbl i, _, x => mConst (fun k => decide (k = .bool i)) x
  | .cnon, _, x => mConst (fun k => decide (k = .none)) x
  | .cstr i, _, x => mConst (fun k => decide (k = .str i)) x
  | .p1 p a, sc, x => m1 p sc (fun y => mE a sc y) x
  | .p2 p a b, sc, x => m2 p sc (fun y => mE a sc y) (fun y => mE b sc y) x
  | .slc a b c, sc, x => mSlc (fun y => mE a sc y) (fun y => mE b sc y) (fun y => mE c sc y) x
  | .mth p a b, sc, x => mMth p (fun y => mE a sc y) (fun y => mE b sc y) x
  | .chain p q a b c, sc, x => mCh p q (fun y => mE a sc y) (fun y => mE b sc y) (fun y => mE c sc y) x
  | .and2 a b, sc, x => mBool .And (fun y => mE a sc y) (fun y => mE b sc y) x
  | .or2 a b, sc, x => mBool .Or (fun y => mE a sc y) (fun y => mE b sc y) x
  | .not1 a, sc, x => mNot (fun y => mE a sc y) x
  | .ife c a b, sc, x => mIfe (fun y => mE c sc y) (fun y => mE a sc y) (fun y => mE b sc y) x
  | .tup l, sc, x => mTup (fun es => mA l sc es) x
  | .lst l, sc, x => mLst (fun es => mA l sc es) x
  | .call f l, sc, x => mCall sc (fn f) (fun es => mA l sc es) x
  | .tupK l, sc, x => mTup (fun es => mA l sc es) x
  | .callv i l, sc, x => mCallv N sc i (fun es => mA l sc es) x
  | .callL _ _ _ _, _, _ => false
  | .callB f l, sc, x => mCall sc (fn f) (fun es => mA l sc es) x
  | .skey f a, sc, x => mSkey sc (fn f) (fun y => mE a sc y) x
  | .glb y d, sc, x => mGlb fn sc y d x
  | .dnew _, _, x => mDnew x
  | .pop i, sc, x => mPop N sc i x
  | .upper a, sc, x => mUpper (fun y => mE a sc y) x
  | .get3 a k d, sc, x => mGet3 (fun y => mE a sc y) (fun y => mE k sc y) (fun y => mE d sc y) x
  | .comp _ own t one it cond elt, sc, x => mComp N sc own t one (fun tg y => mI it sc tg y) (fun s y => mO cond s y) (fun s y => mE elt s y) x
def mA : MAs → Scope → List Expr → Bool
  | .nil, _, es => es.isEmpty
  | .cons _ a l, sc, es => (match es with | x :: es => mE a sc x && mA l sc es | [] => false)
def mO : MO → Scope → List Expr → Bool
  | .none, _, es => es.isEmpty
  | .some a, sc, es => (match es with | [x] => mE a sc x | _ => false)
def mI : MI → Scope → Expr → Expr → Bool
  | .rng1 a, sc, _, x => mRng1 sc "range" (fun y => mE a sc y) x
  | .rng2 a b, sc, _, x => mRng2 sc "range" (fun y => mE a sc y) (fun y => mE b sc y) x
  | .enum a, sc, tg, x => isTupE tg && mRng1 sc "enumerate" (fun y => mE a sc y) x
  | .zip a b, sc, tg, x => isTupE tg && mRng2 sc "zip" (fun y => mE a sc y) (fun y => mE b sc y) x
  | .seq a, sc, _, x => mE a sc x
  | .keys a, sc, _, x => mE a sc x
  | .chars a, sc, _, x => mE a sc x
  | .vals a, sc, _, x => mVals (fun y => mE a sc y) x
end
end
/-- what is matched bears no star -/
def noStar : Expr → Bool
  | .Starred .. => false
  | _ => true
theorem mE_noStar {fn : Nm} {N : List Str} {a : ME} {sc : Scope} {x : Expr} (h : mE fn N a sc x = true) : noStar x = true := by
  cases x with
  | Starred e p => cases a <;> simp [mE, mName, mConst, m1, m2, mSlc, mMth, mCh, mBool, mNot, mIfe, mTup, mLst, mCall, mCallv, mCallL, mSkey, mComp, mGlb, mDnew, mGet3, mPop, mUpper] at h
  | _ => rfl
/-- .. and is no bare super() -/
def noSup : Expr → Bool
  | .Call (.Name _ _) [] [] _ => false
  | _ => true
theorem mE_noSup {fn : Nm} {N : List Str} {a : ME} {sc : Scope} {x : Expr} (h : mE fn N a sc x = true) : noSup x = true := by
  unfold noSup
  split
  · cases a <;> simp [mE, mName, mConst, m1, m2, mSlc, mMth, mCh, mBool, mNot, mIfe, mTup, mLst, mCall, mCallv, mCallL, mSkey, mComp, mGlb, mDnew, mGet3, mPop, mUpper] at h
  · rfl
theorem base_noSup {x : Expr} {n : Str} {env : PySem.Env} (h : noSup x = true) : attributeBase x n env (eval x env) = eval x env := by
  unfold attributeBase
  split
  · cases h
  · rfl
/-- .. and no set display -/
def noSet : Expr → Bool
  | .Set .. => false
  | _ => true
theorem mE_noSet {fn : Nm} {N : List Str} {a : ME} {sc : Scope} {x : Expr} (h : mE fn N a sc x = true) : noSet x = true := by
  cases x with
  | Set e k p => cases a <;> simp [mE, mName, mConst, m1, m2, mSlc, mMth, mCh, mBool, mNot, mIfe, mTup, mLst, mCall, mCallv, mCallL, mSkey, mComp, mGlb, mDnew, mGet3, mPop, mUpper] at h
  | _ => rfl
theorem mI_noSet {fn : Nm} {N : List Str} {a : MI} {sc : Scope} {tg x : Expr} (h : mI fn N a sc tg x = true) : noSet x = true := by
  cases x with
  | Set e k p =>
    cases a with
    | seq a => exact mE_noSet (by simpa only [mI] using h)
    | keys a => exact mE_noSet (by simpa only [mI] using h)
    | chars a => exact mE_noSet (by simpa only [mI] using h)
    | _ => simp [mI, mRng1, mRng2, mVals] at h
  | _ => rfl
theorem fold_noSet {x : Expr} {env : PySem.Env} (h : noSet x = true) : ∀ v, foldedSetIterable x env v = pure v := by
  intro v
  cases x with
  | Set => cases h
  | _ => rfl
theorem star_cons {x : Expr} {es : List Expr} {env : PySem.Env} (h : noStar x = true) : starEach (x :: es) env = (false, eval x env) :: starEach es env := by
  cases x with
  | Starred e p => cases h
  | _ => rfl
end MW
namespace MW
open L2 PyProof.Rows PySem.Spec PySem
/-! ### one operation -/
section
variable (c : RC)
/-- a value whose own node stands in H, what it holds in G -/
def RT (H G : Hp) : D → V → Prop
  | .lst l, v => ∃ a xs, v = .ref a ∧ Rd H a (.lst xs) ∧ RSL c G l xs
  | .scr l, v => ∃ a xs, v = .ref a ∧ SqL c.K H a xs ∧ RSL c G l xs
  | .dk l, v => ∃ a kvs, v = .ref a ∧ Rd H a (.dK kvs) ∧ RSK c G l kvs
  | .dt l, v => ∃ a kvs, v = .ref a ∧ Rd H a (.dT kvs) ∧ RST c G l kvs
  | d, v => RS c G d v
theorem RT.tup {H G : Hp} {l : List D} {v : V} (s : Sub G H) (h : RT c H G (.tup l) v) : ∃ a xs, v = .ref a ∧ SqT c.K H a xs ∧ RSL c G l xs := by
  simp only [RT, RS] at h
  obtain ⟨a, xs, e, q, r⟩ := h
  exact ⟨a, xs, e, s.tup q, r⟩
structure Grow (H G H' G' : Hp) (Fr : List Addr) : Prop where
  keep : ∀ a o, H a = some o → nt o → H' a = some o
  some : ∀ a, H a ≠ none → H' a ≠ none
  gle : Gle G G'
  sub : Sub G' H'
  fr : ∀ a ∈ Fr, H a = none ∧ G' a = none
  nd : Fr.Nodup
  fG : ∀ a, G' a ≠ none → G a ≠ none ∨ H a = none
def Post (H G : Hp) (od : OD) (Q : VK) : Prop := ∀ v H' G' Fr, Grow H G H' G' Fr → RO c H' G' od v Fr → Q v H'
def PostO (H G : Hp) (o : Option OD) (Q : VK) : Prop := match o with
  | some od => Post c H G od Q
  | none => False
def rP1 (p : P1) : V → Hp → VK → Prop := fun x H Q => ∃ G d, Sub G H ∧ RT c H G d x ∧ PostO c H G (p1Sem p d) Q
def rP2 (p : P2) : V → V → Hp → VK → Prop := fun x y H Q => ∃ G d d', Sub G H ∧ RT c H G d x ∧ RT c H G d' y ∧ PostO c H G (p2Sem p d d') Q
end
section
variable {c : RC} {Ex : XK} {H G : Hp}
theorem Grow.refl (s : Sub G H) : Grow H G H G [] := ⟨fun _ _ h _ => h, fun _ h => h, Gle.refl _, s, fun _ z => (by cases z), List.nodup_nil, fun _ h => Or.inl h⟩
theorem Sub.no {G H : Hp} (s : Sub G H) {p : Addr} (h : H p = none) : G p = none := by
  cases q : G p with
  | none => rfl
  | some o => rcases s p o q with ⟨e, _⟩ | ⟨_, ob, e⟩ | ⟨_, _, _, e, _⟩ <;> rw [h] at e <;> cases e
theorem plainH.no {H : Hp} {p : Addr} (h : H p = Option.none) : plainH (H p) := by rw [h]; exact plainH.none
theorem Sub.upd {G H : Hp} (s : Sub G H) {p : Addr} {o : HO} (h : G p = none) (hp : plainH (H p)) : Sub G (upd H p o) := fun a u q => by
  have ne : a ≠ p := fun e => by subst e; rw [h] at q; cases q
  rw [upd_ne ne]
  exact (s a u q).imp id (Or.imp id fun ⟨y, z, t⟩ => ⟨y, z, t.upd hp⟩)
theorem Sub.both {G H : Hp} (s : Sub G H) {p : Addr} {o : HO} (hp : plainH (H p)) (hn : nm o) : Sub (L2.upd G p o) (L2.upd H p o) := fun a u q => by
  by_cases e : a = p
  · subst e; rw [upd_same] at q ⊢; cases q; exact .inl ⟨rfl, hn⟩
  · rw [upd_ne e] at q ⊢
    refine (s a u q).imp id (Or.imp id fun ⟨y, z, t⟩ => ⟨y, z, ?_⟩)
    obtain ⟨ps, h1, h2, h3⟩ := t.upd (o := o) hp
    refine ⟨ps, h1, h2, fun pos cv hc => ?_⟩
    obtain ⟨c, e1, e2⟩ := h3 pos cv hc
    refine ⟨c, e1, ?_⟩
    rw [upd_ne (fun z => by have := s.ext e2; rw [z] at this; exact (hp _ this).elim)]
    exact e2
theorem Gle.upd {G : Hp} {p : Addr} {o : HO} (h : G p = none) : Gle G (upd G p o) := Gle.of fun a u q => by
  have ne : a ≠ p := fun e => by subst e; rw [h] at q; cases q
  rw [upd_ne ne]; exact q
/-- a new object, owned -/
theorem Grow.own {p : Addr} {o : HO} (s : Sub G H) (h : H p = none) : Grow H G (upd H p o) G [p] := by
  have gp := s.no h
  refine ⟨fun a u q _ => ?_, fun a q => ?_, Gle.refl _, s.upd gp (.no h), fun a ha => ?_, by simp, fun a q => .inl q⟩
  · have ne : a ≠ p := fun e => by subst e; rw [h] at q; cases q
    rw [upd_ne ne]; exact q
  · by_cases e : a = p
    · subst e; rw [upd_same]; simp
    · rw [upd_ne e]; exact q
  · have e : a = p := by simpa using ha
    subst e; exact ⟨h, gp⟩
/-- a new object, shared -/
theorem Grow.shared {p : Addr} {o : HO} (s : Sub G H) (h : H p = none) (hn : nm o := by trivial) : Grow H G (upd H p o) (upd G p o) [] := by
  have gp := s.no h
  refine ⟨fun a u q _ => ?_, fun a q => ?_, Gle.upd gp, s.both (.no h) hn, fun a ha => (by cases ha), List.nodup_nil, fun a q => ?_⟩
  · have ne : a ≠ p := fun e => by subst e; rw [h] at q; cases q
    rw [upd_ne ne]; exact q
  · by_cases e : a = p
    · subst e; rw [upd_same]; simp
    · rw [upd_ne e]; exact q
  · by_cases e : a = p
    · subst e; exact .inr h
    · rw [upd_ne e] at q; exact .inl q
theorem REnv.seqs {H G : Hp} : ∀ {e : Env} {σ : L2.St} {F : List Addr}, REnv c H G e σ F → ∀ a ∈ F, ∃ o, H a = some o ∧ seqO o
  | [], σ, F, h, a, ha => by simp only [REnv] at h; rw [h.2.1] at ha; cases ha
  | none :: e, σ, F, h, a, ha => by
    simp only [REnv] at h
    obtain ⟨y, r, rfl, h⟩ := h
    exact REnv.seqs h a ha
  | some od :: e, σ, F, h, a, ha => by
    simp only [REnv] at h
    obtain ⟨v, r, F1, F2, rfl, rfl, p, q⟩ := h
    rcases List.mem_append.mp ha with z | z
    · exact RO.seqs p a z
    · exact REnv.seqs q a z
theorem REnv.there {H G : Hp} : ∀ {e : Env} {σ : L2.St} {F : List Addr}, REnv c H G e σ F → ∀ a ∈ F, ∃ o, H a = some o ∧ nt o
  | [], σ, F, h, a, ha => by simp only [REnv] at h; rw [h.2.1] at ha; cases ha
  | none :: e, σ, F, h, a, ha => by
    simp only [REnv] at h
    obtain ⟨y, r, rfl, h⟩ := h
    exact REnv.there h a ha
  | some od :: e, σ, F, h, a, ha => by
    simp only [REnv] at h
    obtain ⟨v, r, F1, F2, rfl, rfl, p, q⟩ := h
    rcases List.mem_append.mp ha with ha | ha
    · exact RO.there p a ha
    · exact REnv.there q a ha
theorem SIM.grow {σ : L2.St} {F Fr : List Addr} {e : Env} {H' G' : Hp} (s : SIM c σ H G F e) (g : Grow H G H' G' Fr) :
    SIM c σ H' G' F e ∧ Step H G F H' G' (F ++ Fr) ∧ (F ++ Fr).Nodup ∧ ∀ x ∈ Fr, G' x = none := by
  have th : ∀ a ∈ F, ∃ o, H a = some o ∧ nt o := REnv.there s.ren
  refine ⟨⟨g.sub, REnv.mono g.gle (fun a ha o q => ?_) s.ren, s.nd, fun a ha => ?_⟩, ⟨fun a o q n _ _ => g.keep a o q n, g.some, g.gle, fun a ha => ?_, fun a q => ?_⟩, ?_, fun x hx => (g.fr x hx).2⟩
  · obtain ⟨o', e1, n⟩ := th a ha
    rw [e1] at q; cases q
    exact g.keep a _ e1 n
  · cases q : G' a with
    | none => rfl
    | some o =>
      rcases g.fG a (by rw [q]; simp) with z | z
      · exact absurd (s.gf a ha) z
      · obtain ⟨o', e1, _⟩ := th a ha
        rw [e1] at z; cases z
  · rcases List.mem_append.mp ha with z | z
    · exact .inl z
    · exact .inr (g.fr a z).1
  · rcases g.fG a q with z | z
    · exact .inl z
    · exact .inr (.inr z)
  · refine List.nodup_append.mpr ⟨s.nd, g.nd, fun a h1 b h2 e => ?_⟩
    subst e
    obtain ⟨o', e1, _⟩ := th a h1
    rw [(g.fr a h2).1] at e1; cases e1
/-! lists of shared items -/
theorem allS_toDs : ∀ {l : List OD} {ds : List D}, allS l = some ds → l = ds.map .s
  | [], ds, h => by simp only [allS, Option.some.injEq] at h; subst h; rfl
  | .s d :: l, ds, h => by
    simp only [allS, Option.map_eq_some_iff] at h
    obtain ⟨r, h1, rfl⟩ := h
    rw [allS_toDs h1]; rfl
  | .ol _ :: l, ds, h => by simp [allS] at h
  | .ot _ :: l, ds, h => by simp [allS] at h
  | .odk _ :: l, ds, h => by simp [allS] at h
  | .odt _ :: l, ds, h => by simp [allS] at h
  | .oo _ _ :: l, ds, h => by simp [allS] at h
theorem allSK_to : ∀ {l : List (Key × OD)} {ds : List (Key × D)}, allSK l = some ds → l = ds.map fun p => (p.1, .s p.2)
  | [], ds, h => by simp only [allSK, Option.some.injEq] at h; subst h; rfl
  | (k, .s d) :: l, ds, h => by
    simp only [allSK, Option.map_eq_some_iff] at h
    obtain ⟨r, h1, rfl⟩ := h
    rw [allSK_to h1]; rfl
  | (_, .ol _) :: l, ds, h => by simp [allSK] at h
  | (_, .ot _) :: l, ds, h => by simp [allSK] at h
  | (_, .odk _) :: l, ds, h => by simp [allSK] at h
  | (_, .odt _) :: l, ds, h => by simp [allSK] at h
  | (_, .oo _ _) :: l, ds, h => by simp [allSK] at h
theorem allST_to : ∀ {l : List (List Key × OD)} {ds : List (List Key × D)}, allST l = some ds → l = ds.map fun p => (p.1, .s p.2)
  | [], ds, h => by simp only [allST, Option.some.injEq] at h; subst h; rfl
  | (k, .s d) :: l, ds, h => by
    simp only [allST, Option.map_eq_some_iff] at h
    obtain ⟨r, h1, rfl⟩ := h
    rw [allST_to h1]; rfl
  | (_, .ol _) :: l, ds, h => by simp [allST] at h
  | (_, .ot _) :: l, ds, h => by simp [allST] at h
  | (_, .odk _) :: l, ds, h => by simp [allST] at h
  | (_, .odt _) :: l, ds, h => by simp [allST] at h
  | (_, .oo _ _) :: l, ds, h => by simp [allST] at h
theorem allS_map : ∀ ds : List D, allS (ds.map .s) = some ds
  | [] => rfl
  | d :: ds => by simp [allS, allS_map ds]
theorem ROL_s : ∀ {ds : List D} {xs : List V} {F : List Addr}, ROL c H G (ds.map .s) xs F ↔ RSL c G ds xs ∧ F = []
  | [], xs, F => by simp [ROL, RSL]
  | d :: ds, xs, F => by
    simp only [List.map_cons, ROL, RSL]
    constructor
    · rintro ⟨x, r, F1, F2, rfl, rfl, p, q⟩
      simp only [RO] at p
      obtain ⟨p1, rfl⟩ := p
      obtain ⟨q1, rfl⟩ := ROL_s.mp q
      exact ⟨⟨x, r, rfl, p1, q1⟩, rfl⟩
    · rintro ⟨⟨x, r, rfl, p, q⟩, rfl⟩
      exact ⟨x, r, [], [], rfl, rfl, by simp only [RO]; exact ⟨p, trivial⟩, ROL_s.mpr ⟨q, rfl⟩⟩
theorem ROK_s : ∀ {ds : List (Key × D)} {xs : List (Key × V)} {F : List Addr}, ROK c H G (ds.map fun p => (p.1, .s p.2)) xs F ↔ RSK c G ds xs ∧ F = []
  | [], xs, F => by simp [ROK, RSK]
  | (k, d) :: ds, xs, F => by
    simp only [List.map_cons, ROK, RSK]
    constructor
    · rintro ⟨x, r, F1, F2, rfl, rfl, p, q⟩
      simp only [RO] at p
      obtain ⟨p1, rfl⟩ := p
      obtain ⟨q1, rfl⟩ := ROK_s.mp q
      exact ⟨⟨x, r, rfl, p1, q1⟩, rfl⟩
    · rintro ⟨⟨x, r, rfl, p, q⟩, rfl⟩
      exact ⟨x, r, [], [], rfl, rfl, by simp only [RO]; exact ⟨p, trivial⟩, ROK_s.mpr ⟨q, rfl⟩⟩
theorem ROT_s : ∀ {ds : List (List Key × D)} {xs : List (List Key × V)} {F : List Addr}, ROT c H G (ds.map fun p => (p.1, .s p.2)) xs F ↔ RST c G ds xs ∧ F = []
  | [], xs, F => by simp [ROT, RST]
  | (k, d) :: ds, xs, F => by
    simp only [List.map_cons, ROT, RST]
    constructor
    · rintro ⟨x, r, F1, F2, rfl, rfl, p, q⟩
      simp only [RO] at p
      obtain ⟨p1, rfl⟩ := p
      obtain ⟨q1, rfl⟩ := ROT_s.mp q
      exact ⟨⟨x, r, rfl, p1, q1⟩, rfl⟩
    · rintro ⟨⟨x, r, rfl, p, q⟩, rfl⟩
      exact ⟨x, r, [], [], rfl, rfl, by simp only [RO]; exact ⟨p, trivial⟩, ROT_s.mpr ⟨q, rfl⟩⟩
theorem RS.top (s : Sub G H) : ∀ {d : D} {v : V}, RS c G d v → RT c H G d v
  | .non, v, h => h
  | .bl b, v, h => h
  | .int b, v, h => h
  | .str b, v, h => h
  | .tup l, v, h => h
  | .lst l, v, h => by
    simp only [RS] at h
    obtain ⟨a, xs, e, q, r⟩ := h
    exact ⟨a, xs, e, s.rd q, r⟩
  | .scr l, v, h => by
    simp only [RS] at h
    obtain ⟨a, xs, e, q, r⟩ := h
    exact ⟨a, xs, e, s.list q, r⟩
  | .dk l, v, h => by
    simp only [RS] at h
    obtain ⟨a, xs, e, q, r⟩ := h
    exact ⟨a, xs, e, s.rdx q (fun _ z => by cases z), r⟩
  | .dt l, v, h => by
    simp only [RS] at h
    obtain ⟨a, xs, e, q, r⟩ := h
    exact ⟨a, xs, e, s.rdx q (fun _ z => by cases z), r⟩
  | .obj k l, v, h => h
  | .clo k l, v, h => h
  | .kt ks, v, h => h
/-- an owned value read in place -/
theorem RO.top (s : Sub G H) {od : OD} {d : D} {v : V} {F : List Addr} (h : RO c H G od v F) (e : od.flatD = some d) : RT c H G d v := by
  cases od with
  | s d' =>
    simp only [OD.flatD, Option.some.injEq] at e; subst e
    simp only [RO] at h; exact h.1.top s
  | ol l =>
    simp only [OD.flatD, Option.map_eq_some_iff] at e
    obtain ⟨ds, e1, rfl⟩ := e
    obtain rfl := allS_toDs e1
    simp only [RO] at h
    obtain ⟨a, xs, F1, rfl, q, r, rfl⟩ := h
    exact ⟨a, xs, rfl, .inl q, (ROL_s.mp r).1⟩
  | ot l => cases e
  | odk l =>
    simp only [OD.flatD, Option.map_eq_some_iff] at e
    obtain ⟨ds, e1, rfl⟩ := e
    obtain rfl := allSK_to e1
    simp only [RO] at h
    obtain ⟨a, xs, F1, rfl, q, r, rfl⟩ := h
    exact ⟨a, xs, rfl, .inl q, (ROK_s.mp r).1⟩
  | odt l =>
    simp only [OD.flatD, Option.map_eq_some_iff] at e
    obtain ⟨ds, e1, rfl⟩ := e
    obtain rfl := allST_to e1
    simp only [RO] at h
    obtain ⟨a, xs, F1, rfl, q, r, rfl⟩ := h
    exact ⟨a, xs, rfl, .inl q, (ROT_s.mp r).1⟩
  | oo k l => cases e
/-- an operand when the operation runs -/
theorem opd_top {σ : L2.St} {F Fr : List Addr} {e : Env} {H1 G1 : Hp} {o : Opd} {v : V} {d : D} (s : SIM c σ H G F e) (g : Gle G1 G) (h : repP c σ H1 G1 o v Fr) (r : o.res e = some d) : RT c H G d v := by
  cases o with
  | v d' =>
    simp only [Opd.res, Option.some.injEq] at r; subst r
    exact (h.2.mono g).top s.sub
  | «at» i =>
    simp only [Opd.res] at r
    split at r
    · rename_i od q
      obtain ⟨w, Fa, Fi, Fb, e1, e2, ro, _⟩ := s.ren.get q
      have hv : σ[i]? = some (some v) := h.2
      rw [hv] at e1
      simp only [Option.some.injEq] at e1
      subst e1
      exact ro.top s.sub r
    · cases r
/-! readings of operations -/
theorem seq1 {p : P1} {ra : Env → Out Opd} {σ : L2.St} {Q : VK} (h : rdX c Ex (repO c) (fun e => (ra e).bind fun a e => match a.res e with | some a => .opt (p1Sem p a) e | none => .bad) σ H Q) :
    rdX c Ex (repP c) ra σ H (fun x H1 => rP1 c p x H1 Q) := by
  obtain ⟨G, F, e, s, r⟩ := h
  refine ⟨G, F, e, s, ?_⟩
  dsimp only at r
  revert r
  cases ra e with
  | bad => exact fun r => r
  | exc k e1 => exact fun r => r
  | ok a e1 =>
    intro r b H' G' F' Fr s1 st rep nd fr
    simp only [Out.bind] at r
    have hf : Fr = [] := by cases a <;> exact rep.1
    subst hf
    simp only [List.append_nil] at st nd
    cases q : a.res e1 with
    | none => rw [q] at r; exact r.elim
    | some d =>
      rw [q] at r
      simp only at r
      refine ⟨G', d, s1.sub, opd_top s1 (Gle.refl _) rep q, ?_⟩
      cases q2 : p1Sem p d with
      | none => rw [q2] at r; exact r.elim
      | some od =>
        rw [q2] at r
        simp only [Out.opt] at r
        intro v H2 G2 Fr2 g ro
        obtain ⟨s2, st2, nd2, fr2⟩ := s1.grow g
        exact r v H2 G2 F' Fr2 s2 (st.trans st2) ro nd2 fr2
theorem seq2 {p : P2} {ra rb : Env → Out Opd} {σ : L2.St} {Q : VK} (h : rdX c Ex (repO c) (fun e => (ra e).bind fun a e => (rb e).bind fun b e => match a.res e, b.res e with | some a, some b => .opt (p2Sem p a b) e | _, _ => .bad) σ H Q) :
    rdX c Ex (repP c) ra σ H (fun x H1 => rdX c Ex (repP c) rb σ H1 (fun y H2 => rP2 c p x y H2 Q)) := by
  obtain ⟨G, F, e, s, r⟩ := h
  refine ⟨G, F, e, s, ?_⟩
  dsimp only at r
  revert r
  cases ra e with
  | bad => exact fun r => r
  | exc k e1 => exact fun r => r
  | ok a e1 =>
    intro r b H' G' F' Fr s1 st rep nd fr
    have hf : Fr = [] := by cases a <;> exact rep.1
    subst hf
    simp only [List.append_nil] at st nd
    refine ⟨G', F', e1, s1, ?_⟩
    revert r
    simp only [Out.bind]
    cases rb e1 with
    | bad => exact fun r => r
    | exc k e2 => exact fun r H2 G2 F2 s2 st2 => r H2 G2 F2 s2 (st.trans st2)
    | ok a2 e2 =>
      intro r b2 H2 G2 F2 Fr2 s2 st2 rep2 nd2 fr2
      have hf : Fr2 = [] := by cases a2 <;> exact rep2.1
      subst hf
      simp only [List.append_nil] at st2 nd2
      cases q : a.res e2 with
      | none => simp only [q] at r; exact r.elim
      | some d =>
        cases q' : a2.res e2 with
        | none => simp only [q, q'] at r; exact r.elim
        | some d' =>
          simp only [q, q'] at r
          refine ⟨G2, d, d', s2.sub, opd_top s2 st2.gle rep q, opd_top s2 (Gle.refl _) rep2 q', ?_⟩
          cases q2 : p2Sem p d d' with
          | none => rw [q2] at r; exact r.elim
          | some od =>
            rw [q2] at r
            simp only [Out.opt] at r
            intro v H3 G3 Fr3 g ro
            obtain ⟨s3, st3, nd3, fr3⟩ := s2.grow g
            exact r v H3 G3 F2 Fr3 s3 ((st.trans st2).trans st3) ro nd3 fr3
/-- an operand -/
theorem pe_opd {X : Cx} {C : CallS} {a : ME} {x : Expr} (h : PE X x (rdX c Ex (repO c) (ev C a))) (hb : ∀ i, a = .bv i → PE X x (tVar i)) : PE X x (rdX c Ex (repP c) (opd a (ev C a))) := by
  by_cases hv : ∃ i, a = .bv i
  · obtain ⟨i, rfl⟩ := hv
    refine PE.weak (hb i rfl) fun σ H Q q => ?_
    obtain ⟨G, F, e, s, r⟩ := q
    simp only [opd] at r
    split at r
    · rename_i od q
      obtain ⟨v, _, _, _, e1, _⟩ := s.ren.get q
      exact ⟨v, e1, r v H G F [] s (by simpa using Step.refl) ⟨rfl, e1⟩ (by simpa using s.nd) (fun _ z => by cases z)⟩
    · exact r.elim
  · refine PE.weak h fun σ H Q q => rdE_S ?_
    obtain ⟨G, F, e, s, r⟩ := q
    refine ⟨G, F, e, s, ?_⟩
    have e1 : opd a (ev C a) e = (ev C a e).bind fun od e => .ok (.v od.toD) e := by
      cases a <;> first | rfl | exact absurd ⟨_, rfl⟩ hv
    rw [e1] at r
    revert r
    cases ev C a e with
    | bad => exact fun r => r
    | exc k e1 => exact fun r => r
    | ok od e1 => exact fun r b H' G' F' Fr s1 st rep => r b H' G' F' Fr s1 st rep
end
end MW
namespace MW
open L2 PyProof.Rows PySem.Spec PySem
section
variable {c : RC} {Ex : XK} {X : Cx}
theorem rdX.imp {α β : Type} {rep : Rep α β} {f : Env → Out α} {σ : L2.St} {H : Hp} {Q Q' : β → Hp → Prop} (h : rdX c Ex rep f σ H Q) (w : ∀ v H, Q v H → Q' v H) : rdX c Ex rep f σ H Q' := by
  obtain ⟨G, F, e, s, r⟩ := h
  refine ⟨G, F, e, s, ?_⟩
  revert r
  cases f e with
  | ok a e1 => exact fun r b H G F Fr s st rp nd fr => w _ _ (r b H G F Fr s st rp nd fr)
  | exc k e1 => exact fun r => r
  | bad => exact fun r => r
theorem CallR.weak {f : Value} {r r' : List V → Hp → VK → Prop} (h : CallR X f r) (w : ∀ xs H Q, r' xs H Q → r xs H Q) : CallR X f r' := fun pins s σ H xs us Q I rv q => h pins s σ H xs us Q I rv (w xs H Q q)
theorem OpR.weak {f : Value → Value → Sem Value} {r r' : R2} (h : OpR X f r) (w : ∀ x y H Q, r' x y H Q → r x y H Q) : OpR X f r' := fun pins s σ H x y v u Q I rx ry q => h pins s σ H x y v u Q I rx ry (w x y H Q q)
theorem IxR.weak {r r' : R2} (h : IxR X r) (w : ∀ x y H Q, r' x y H Q → r x y H Q) : IxR X r' := fun va sl pins s σ H x y v u Q I rx ry q => h va sl pins s σ H x y v u Q I rx ry (w x y H Q q)
theorem SlR.weak {r r' : V → Option Int → Option Int → Hp → VK → Prop} (h : SlR X r) (w : ∀ x y z H Q, r' x y z H Q → r x y z H Q) : SlR X r' := by
  intro pins s σ H x v vl vu lo hi sl Q I rx hs pl pu q
  exact h pins s σ H x v vl vu lo hi sl Q I rx hs pl pu (w _ _ _ _ _ q)
theorem RSL.len {G : Hp} : ∀ {l : List D} {xs : List V}, RSL c G l xs → xs.length = l.length
  | [], xs, h => by simp only [RSL] at h; subst h; rfl
  | d :: l, xs, h => by
    simp only [RSL] at h
    obtain ⟨x, r, rfl, p, q⟩ := h
    simp [RSL.len q]
theorem RSL.get {G : Hp} : ∀ {l : List D} {xs : List V} {i : Nat} {d : D}, RSL c G l xs → l[i]? = some d → ∃ x, xs[i]? = some x ∧ RS c G d x
  | [], xs, i, d, h, e => by simp at e
  | a :: l, xs, 0, d, h, e => by
    simp only [RSL] at h
    obtain ⟨x, r, rfl, p, q⟩ := h
    simp only [List.getElem?_cons_zero, Option.some.injEq] at e ⊢
    subst e; exact ⟨x, rfl, p⟩
  | a :: l, xs, i + 1, d, h, e => by
    simp only [RSL] at h
    obtain ⟨x, r, rfl, p, q⟩ := h
    simp only [List.getElem?_cons_succ] at e ⊢
    exact RSL.get q e
theorem RSL.app {G : Hp} : ∀ {l l' : List D} {xs xs' : List V}, RSL c G l xs → RSL c G l' xs' → RSL c G (l ++ l') (xs ++ xs')
  | [], l', xs, xs', h, h' => by simp only [RSL] at h; subst h; exact h'
  | d :: l, l', xs, xs', h, h' => by
    simp only [RSL] at h
    obtain ⟨x, r, rfl, p, q⟩ := h
    simp only [List.cons_append, RSL]
    exact ⟨x, r ++ xs', rfl, p, RSL.app q h'⟩
theorem RSL.take {G : Hp} : ∀ {l : List D} {xs : List V} (n : Nat), RSL c G l xs → RSL c G (l.take n) (xs.take n)
  | [], xs, n, h => by simp only [RSL] at h; subst h; simp [RSL]
  | d :: l, xs, 0, h => by simp [RSL]
  | d :: l, xs, n + 1, h => by
    simp only [RSL] at h
    obtain ⟨x, r, rfl, p, q⟩ := h
    simp only [List.take_succ_cons, RSL]
    exact ⟨x, r.take n, rfl, p, RSL.take n q⟩
theorem RSL.drop {G : Hp} : ∀ {l : List D} {xs : List V} (n : Nat), RSL c G l xs → RSL c G (l.drop n) (xs.drop n)
  | [], xs, n, h => by simp only [RSL] at h; subst h; simp [RSL]
  | d :: l, xs, 0, h => by simpa using h
  | d :: l, xs, n + 1, h => by
    simp only [RSL] at h
    obtain ⟨x, r, rfl, p, q⟩ := h
    simp only [List.drop_succ_cons]
    exact RSL.drop n q
theorem RSL.cut {G : Hp} {l : List D} {xs : List V} (lo hi : Option Int) (h : RSL c G l xs) : RSL c G (cutD l lo hi) (cutV xs lo hi) := by
  unfold cutD cutV
  rw [h.len]
  exact (h.drop _).take _
theorem RSL.ints {G : Hp} : ∀ {l : List D} {xs : List V} {ns : List Int}, RSL c G l xs → asInts l = some ns → xs = ns.map V.int
  | [], xs, ns, h, e => by
    simp only [RSL] at h; subst h
    simp only [asInts, Option.some.injEq] at e; subst e; rfl
  | .int i :: l, xs, ns, h, e => by
    simp only [RSL] at h
    obtain ⟨x, r, rfl, p, q⟩ := h
    simp only [asInts, Option.map_eq_some_iff] at e
    obtain ⟨ms, e1, rfl⟩ := e
    simp only [RS] at p
    subst p
    rw [RSL.ints q e1]; rfl
  | .non :: l, xs, ns, h, e => by simp [asInts] at e
  | .bl _ :: l, xs, ns, h, e => by simp [asInts] at e
  | .str _ :: l, xs, ns, h, e => by simp [asInts] at e
  | .tup _ :: l, xs, ns, h, e => by simp [asInts] at e
  | .lst _ :: l, xs, ns, h, e => by simp [asInts] at e
  | .scr _ :: l, xs, ns, h, e => by simp [asInts] at e
  | .dk _ :: l, xs, ns, h, e => by simp [asInts] at e
  | .dt _ :: l, xs, ns, h, e => by simp [asInts] at e
  | .obj _ _ :: l, xs, ns, h, e => by simp [asInts] at e
theorem RSL.bls {G : Hp} : ∀ {l : List D} {xs : List V} {ns : List Bool}, RSL c G l xs → asBls l = some ns → xs = ns.map V.bl
  | [], xs, ns, h, e => by
    simp only [RSL] at h; subst h
    simp only [asBls, Option.some.injEq] at e; subst e; rfl
  | .bl i :: l, xs, ns, h, e => by
    simp only [RSL] at h
    obtain ⟨x, r, rfl, p, q⟩ := h
    simp only [asBls, Option.map_eq_some_iff] at e
    obtain ⟨ms, e1, rfl⟩ := e
    simp only [RS] at p
    subst p
    rw [RSL.bls q e1]; rfl
  | .non :: l, xs, ns, h, e => by simp [asBls] at e
  | .int _ :: l, xs, ns, h, e => by simp [asBls] at e
  | .str _ :: l, xs, ns, h, e => by simp [asBls] at e
  | .tup _ :: l, xs, ns, h, e => by simp [asBls] at e
  | .lst _ :: l, xs, ns, h, e => by simp [asBls] at e
  | .scr _ :: l, xs, ns, h, e => by simp [asBls] at e
  | .dk _ :: l, xs, ns, h, e => by simp [asBls] at e
  | .dt _ :: l, xs, ns, h, e => by simp [asBls] at e
  | .obj _ _ :: l, xs, ns, h, e => by simp [asBls] at e
theorem RSL.strs {G : Hp} : ∀ {l : List D} {xs : List V} {ns : List Str}, RSL c G l xs → asStrs l = some ns → xs = ns.map V.str
  | [], xs, ns, h, e => by
    simp only [RSL] at h; subst h
    simp only [asStrs, Option.some.injEq] at e; subst e; rfl
  | .str i :: l, xs, ns, h, e => by
    simp only [RSL] at h
    obtain ⟨x, r, rfl, p, q⟩ := h
    simp only [asStrs, Option.map_eq_some_iff] at e
    obtain ⟨ms, e1, rfl⟩ := e
    simp only [RS] at p
    subst p
    rw [RSL.strs q e1]; rfl
  | .non :: l, xs, ns, h, e => by simp [asStrs] at e
  | .int _ :: l, xs, ns, h, e => by simp [asStrs] at e
  | .bl _ :: l, xs, ns, h, e => by simp [asStrs] at e
  | .tup _ :: l, xs, ns, h, e => by simp [asStrs] at e
  | .lst _ :: l, xs, ns, h, e => by simp [asStrs] at e
  | .scr _ :: l, xs, ns, h, e => by simp [asStrs] at e
  | .dk _ :: l, xs, ns, h, e => by simp [asStrs] at e
  | .dt _ :: l, xs, ns, h, e => by simp [asStrs] at e
  | .obj _ _ :: l, xs, ns, h, e => by simp [asStrs] at e
theorem Post.sc {H G : Hp} {d : D} {v : V} {Q : VK} (h : Post c H G (.s d) Q) (s : Sub G H) (r : RS c G d v) : Q v H :=
  h v H G [] (Grow.refl s) (by simp only [RO]; exact ⟨r, trivial⟩)
theorem Post.lst {H G : Hp} {l : List D} {xs : List V} {Q : VK} (h : Post c H G (.ol (l.map .s)) Q) (s : Sub G H) (r : RSL c G l xs) {p : Addr} (hp : H p = none) : Q (.ref p) (upd H p (.lst xs)) :=
  h _ _ G [p] (Grow.own s hp) (by simp only [RO]; exact ⟨p, xs, [], rfl, upd_same, ROL_s.mpr ⟨r, rfl⟩, rfl⟩)
theorem Post.tup {H G : Hp} {l : List D} {xs : List V} {Q : VK} (h : Post c H G (.s (.tup l)) Q) (s : Sub G H) (r : RSL c G l xs) {p : Addr} (hp : H p = none) : Q (.ref p) (upd H p (.tup xs)) := by
  have gp := s.no hp
  refine h _ _ (upd G p (.tup xs)) [] (Grow.shared s hp) ?_
  simp only [RO, RS]
  exact ⟨⟨p, xs, rfl, SqT.of upd_same, RSL.mono (Gle.upd gp) r⟩, trivial⟩
/-! ### one operand -/
def rN1 (c : RC) (p : P1) : List V → Hp → VK → Prop := fun xs H Q => ∃ x, xs = [x] ∧ rP1 c p x H Q
theorem cr_len' (hK : X.K = c.K) : CallR X (.builtin "len") (rN1 c .len) := by
  refine CallR.weak call_len fun xs H Q h => ?_
  obtain ⟨x, rfl, G, d, s, t, q⟩ := h
  rw [hK]
  cases d with
  | lst l =>
    obtain ⟨a, ys, rfl, sq, rs⟩ := t
    exact ⟨_, ys.length, rfl, .inl ⟨ys, .inl sq, rfl⟩, Post.sc q s (by simp only [RS]; rw [rs.len])⟩
  | scr l =>
    obtain ⟨a, ys, rfl, sq, rs⟩ := t
    exact ⟨_, ys.length, rfl, .inl ⟨ys, sq, rfl⟩, Post.sc q s (by simp only [RS]; rw [rs.len])⟩
  | tup l =>
    obtain ⟨a, ys, rfl, sq, rs⟩ := RT.tup c s t
    exact ⟨_, ys.length, rfl, .inr ⟨ys, sq, rfl⟩, Post.sc q s (by simp only [RS]; rw [rs.len])⟩
  | str z =>
    obtain rfl : x = V.str z := by simpa only [RT, RS] using t
    simp only [p1Sem] at q
    split at q
    · rename_i hz
      exact ⟨_, z.length, rfl, ⟨hz, rfl⟩, Post.sc q s (by simp only [RS])⟩
    · exact q.elim
  | non => exact q.elim
  | bl _ => exact q.elim
  | int _ => exact q.elim
  | dk _ => exact q.elim
  | dt _ => exact q.elim
  | obj _ _ => exact q.elim
  | clo _ _ => exact q.elim
  | kt _ => exact q.elim
theorem RSK.keys {G : Hp} : ∀ {l : List (Key × D)} {xs : List (Key × V)}, RSK c G l xs → RSL c G (l.map fun p => dkey p.1) (xs.map fun p => kV p.1)
  | [], xs, h => by simp only [RSK] at h; subst h; simp [RSL]
  | (k, d) :: l, xs, h => by
    simp only [RSK] at h
    obtain ⟨x, r, rfl, p, q⟩ := h
    simp only [List.map_cons, RSL]
    refine ⟨kV k, _, rfl, ?_, RSK.keys q⟩
    cases k <;> simp only [dkey, RS, kV]
theorem RSL_key {G : Hp} : ∀ (ks : List Key), RSL c G (ks.map dkey) (ks.map kV)
  | [] => by simp [RSL]
  | k :: ks => by
    simp only [List.map_cons, RSL]
    refine ⟨kV k, _, rfl, ?_, RSL_key ks⟩
    cases k <;> simp only [dkey, RS, kV]
theorem RS.kt {H G : Hp} (s : Sub G H) {ks : List Key} {v : V} (h : RS c G (.kt ks) v) : ∃ a, v = .ref a ∧ G a = some (.tup (ks.map kV)) ∧ H a = some (.tup (ks.map kV)) := by
  simp only [RS] at h
  obtain ⟨a, e, q⟩ := h
  refine ⟨a, e, q, ?_⟩
  rcases s _ _ q with ⟨z, _⟩ | ⟨z, _⟩ | ⟨_, z, _⟩
  · exact z
  · exact z.elim
  · cases z
theorem cr_list' (hc : X.calm = true) (hK : X.K = c.K) : CallR X (.type "list") (rN1 c .listOf) := by
  intro pins s σ H xs us Q I rv h
  obtain ⟨x, rfl, G, d, sb, t, q⟩ := h
  have fromSq : ∀ (a : Addr) (ys : List V) (l : List D), x = V.ref a → (SqL X.K H a ys ∨ SqT X.K H a ys) → RSL c G l ys → Post c H G (.ol (l.map .s)) Q → wpAny (model X.prog X.w) X.A (call (.type "list") us) (EP X pins σ Q) X.xe s := fun a ys l ex sq rs q => by
    subst ex
    exact call_list_of pins s σ H _ us Q I rv ⟨a, ys, rfl, sq, fun p hp => Post.lst q sb rs hp⟩
  cases d with
  | lst l =>
    obtain ⟨a, ys, rfl, sq, rs⟩ := t
    exact fromSq a ys l rfl (.inl (.inl sq)) rs q
  | scr l =>
    obtain ⟨a, ys, rfl, sq, rs⟩ := t
    exact fromSq a ys l rfl (.inl (by rw [hK]; exact sq)) rs q
  | tup l =>
    obtain ⟨a, ys, rfl, sq, rs⟩ := RT.tup c sb t
    exact fromSq a ys l rfl (.inr (by rw [hK]; exact sq)) rs q
  | dk l =>
    obtain ⟨a, kvs, rfl, sq, rs⟩ := t
    refine call_listD hc pins s σ H _ us Q I rv ⟨a, kvs, rfl, sq, fun p hp => ?_⟩
    have q' : Post c H G (.ol ((l.map fun p => dkey p.1).map .s)) Q := by rw [List.map_map]; exact q
    exact Post.lst q' sb rs.keys hp
  | non => exact q.elim
  | bl _ => exact q.elim
  | int _ => exact q.elim
  | str _ => exact q.elim
  | dt _ => exact q.elim
  | obj _ _ => exact q.elim
  | clo _ _ => exact q.elim
  | kt ks =>
    obtain ⟨a, rfl, q1, q2⟩ := RS.kt (c := c) sb t
    exact fromSq a _ (ks.map dkey) rfl (.inr (SqT.of q2)) (RSL_key ks) q
theorem cr_tuple' (hK : X.K = c.K) : CallR X (.type "tuple") (rN1 c .tupOf) := by
  refine CallR.weak call_tuple_of fun xs H Q h => ?_
  obtain ⟨x, rfl, G, d, s, t, q⟩ := h
  rw [hK]
  cases d with
  | lst l =>
    obtain ⟨a, ys, rfl, sq, rs⟩ := t
    exact ⟨a, ys, rfl, .inl ⟨.inl sq, fun p hp => Post.tup q s rs hp⟩⟩
  | scr l =>
    obtain ⟨a, ys, rfl, sq, rs⟩ := t
    exact ⟨a, ys, rfl, .inl ⟨sq, fun p hp => Post.tup q s rs hp⟩⟩
  | tup l =>
    have t2 : RS c G (.tup l) x := t
    obtain ⟨a, ys, rfl, sq, rs⟩ := RT.tup c s t
    exact ⟨a, ys, rfl, .inr ⟨sq, Post.sc q s t2⟩⟩
  | non => exact q.elim
  | bl _ => exact q.elim
  | int _ => exact q.elim
  | str _ => exact q.elim
  | dk _ => exact q.elim
  | dt _ => exact q.elim
  | obj _ _ => exact q.elim
  | clo _ _ => exact q.elim
  | kt ks =>
    obtain ⟨a, rfl, q1, q2⟩ := RS.kt (c := c) s t
    exact ⟨a, _, rfl, .inr ⟨SqT.of q2, Post.sc q s (by simp only [RS]; exact ⟨a, _, rfl, SqT.of q1, RSL_key ks⟩)⟩⟩
end
end MW
namespace MW
open PySem PySem.Spec PyProof.Rows PySem.W
section
variable {prog : Program} {w : World} {A : Around} {E : Value → Shared → Prop} {s : Shared}
/-- a tuple's items, collected into a list -/
theorem collect_tup {l : Addr} {us : List Value} {Q : List Value → Shared → Prop} (ht : s.heap.IsTuple l us.toArray) (q : Q us { s with heap := (s.heap.push (seqObj "list" #[] 0)).update s.heap.objs.size (Obj.mapSeq (· ++ us.toArray)) }) (hz : us.length ≤ sizeLine) :
    wpAny (model prog w) A (collect (.ref l)) Q E s := by
  obtain ⟨o, ho, hc, n, hd⟩ := ht
  unfold collect
  refine wpAny_bind (wpAny_runValue (codeAny_builtin entry_proto_collect' ?_))
  show wpAny _ _ (do again (.builtin "list.__iadd__" ⟨[← newList [], .ref l], []⟩)) _ _ s
  refine wpAny_bind (wpAny_newList (wpAny_pure ⟨Code.quiet_builtin _ (by decide +kernel), codeAny_builtin entry_list_iadd' ?_⟩))
  show wpAny _ _ (Builtin.List.listExtendWith (.ref s.heap.objs.size) (.ref l) (.ref s.heap.objs.size)) _ _ { s with heap := s.heap.push (seqObj "list" #[] 0) }
  unfold Builtin.List.listExtendWith
  have ho2 : (s.heap.push (seqObj "list" #[] 0)).get? l = some o := Heap.get?_push_of_some _ ho
  refine wpAny_bind (wpAny_typeOf (T := "tuple") ⟨o, ho2, hc⟩ ?_)
  rw [if_pos (by rw [show (Value.type "tuple" == Value.type "tuple") = true from rfl, Bool.or_true])]
  refine wpAny_bind (listItems_at ho2 hd ?_)
  refine wpAny_bind (listItems_at (xs := #[]) (n := 0) (Heap.get?_push_size _ rfl) rfl ?_)
  rw [if_neg (by simp)]
  refine wpAny_bind (listUpdate_at (xs := #[]) (n := 0) (Heap.get?_push_size _ rfl) rfl ?_ (Nat.zero_le _) (by show (#[] ++ us.toArray).size ≤ sizeLine + 1; simp only [Array.size_append, List.size_toArray, List.length_nil]; omega))
  refine wpAny_pure ?_
  show wpAny (model prog w) A (do
      let o ← load s.heap.objs.size
      match o.data with
      | .seq ys _ => pure ys.toList
      | _ => unsupported "internal:collect") Q E { s with heap := (s.heap.push (seqObj "list" #[] 0)).update s.heap.objs.size (Obj.mapSeq (· ++ us.toArray)) }
  refine wpAny_bind (wpAny_load (get?_update_seq (Heap.get?_push_size _ rfl) _) ?_)
  show wpAny _ _ (pure ((#[] : Array Value) ++ us.toArray).toList) Q E _
  rw [show ((#[] : Array Value) ++ us.toArray).toList = us by simp]
  exact wpAny_pure q
/-- sorted(t), t a tuple: the sort runs on a new list -/
theorem sorted_tup_of {l : Addr} {us : List Value} {Q : Value → Shared → Prop} (ht : s.heap.IsTuple l us.toArray) (hz : us.length ≤ sizeLine)
    (body : ∀ E2 : Value → Shared → Prop, wpAny (model prog w) A.in1.in1 (Builtin.«list.sort» ⟨[.ref (s.heap.objs.size + 1)], []⟩) (fun f s2 => f = .done (.ret .none) ∧ Q (.ref (s.heap.objs.size + 1)) s2) E2 { s with heap := copyHeap s.heap us }) :
    wpAny (model prog w) A (call (.builtin "sorted") [.ref l]) Q E s := by
  refine Calls.call_function_entry kind_sorted plain_sorted entry_sorted (args_sorted1 _) ?_
  unfold Builtin.«sorted»
  refine wpAny_bind (m := checkCount "sorted" 1 1 _) (wpAny_pure ?_)
  refine wpAny_bind (collect_tup ht ?_ hz)
  refine wpAny_bind (wpAny_newList ?_ hz)
  have hs : ((s.heap.push (seqObj "list" #[] 0)).update s.heap.objs.size (Obj.mapSeq (· ++ us.toArray))).objs.size = s.heap.objs.size + 1 := by rw [Heap.size_update, size_push']
  show wpAny _ _ _ _ _ { s with heap := copyHeap s.heap us }
  rw [hs]
  refine wpAny_bind (wpAny_holding (wpAny_call_entry_kw slot_list_sort ⟨_, copyHeap_at s.heap us, rfl⟩ entry_list_sort ?bd (args_list_sort _)))
  case bd =>
    show wpAny (model prog w) A.in1.in1 (Builtin.«list.sort» ⟨[.ref (s.heap.objs.size + 1)], []⟩) _ _ _
    refine wpAny_mono (body _) (fun f s2 hf => ?_) fun _ _ z => z
    obtain ⟨rfl, hq⟩ := hf
    exact ⟨_, rfl, wpAny_pure ⟨_, rfl, hq⟩⟩
theorem sorted_dataT {β : Type} {us : List Value} {bs : List β} {enc : β → PyData} {R : Value → β → Prop} {l : Addr} {Q : Value → Shared → Prop} (ht : s.heap.IsList l us.toArray ∨ s.heap.IsTuple l us.toArray) (e : EachIs R us bs) (er : EachIs (fun v b => ∃ as, Reads s.heap v (enc b) as) us bs) (al : AllAlike (bs.map enc)) (hk : Sortable (bs.map enc)) (hz : bs.length ≤ sizeLine)
    (hu : ∀ b, b ∈ bs → A.units + 2 + (enc b).depth < cLine) (h : ∀ out, out.length = bs.length → EachIs R out (bs.mergeSort (dataLe false enc)) → Q (.ref (s.heap.objs.size + 1)) { s with heap := sortedAll s.heap us (List.toArray out) }) :
    wpAny (model prog w) A (call (.builtin "sorted") [.ref l]) Q E s := by
  rcases ht with ht | ht
  · exact sorted_data ht e er al hk hz hu h
  · have er2 : EachIs (fun v b => ∃ as, Reads (sortingHeap (copyHeap s.heap us) (s.heap.objs.size + 1) us) v (enc b) as) us bs := er.mono fun _ _ ⟨as, r⟩ => ⟨as, PyProof.Rows.Reads.keeps (fun _ _ => sorting_copy_old) r⟩
    have hl : us.length ≤ sizeLine := by rw [e.length]; exact hz
    have S := SortsAt.data (prog := prog) (w := w) (A := A.in1.in1) (s := { s with heap := sortingHeap (copyHeap s.heap us) (s.heap.objs.size + 1) us }) (each_map (R := fun v d => ∃ as, Reads (sortingHeap (copyHeap s.heap us) (s.heap.objs.size + 1) us) v d as) enc er2) al hk (bound_map hu)
    exact sorted_tup_of ht hl fun _ => list_sort_vals (s := { s with heap := copyHeap s.heap us }) (copyHeap_at s.heap us) S hl ⟨rfl, h _ (by rw [sortVals_length false rfl]; exact e.length) (sortVals_data false e er2 al)⟩
end
end MW
namespace MW
open L2 PyProof.Rows PySem.Spec PySem
section
variable {c : RC} {X : Cx}
/-! ### tuples of which it is known that they have no dict -/
theorem Sub.frz {G H : Hp} {a : Addr} {o : Obj} {u : HO} (g : Sub G H) (h : G a = some (.frz o u)) : H a = some (.frz o u) := by
  rcases g _ _ h with ⟨e, _⟩ | ⟨z, _⟩ | ⟨_, z, _⟩
  · exact e
  · exact z.elim
  · cases z
theorem RSF.vals {G : Hp} : ∀ {l : List (Str × D)} {fs : List (Str × V)}, RSF c G l fs → RSL c G (l.map fun p => p.2) (fs.map fun p => p.2)
  | [], fs, h => by simp only [RSF] at h; subst h; simp [RSL]
  | (k, d) :: l, fs, h => by
    simp only [RSF] at h
    obtain ⟨x, r, rfl, p, q⟩ := h
    simp only [List.map_cons, RSL]
    exact ⟨x, _, rfl, p, RSF.vals q⟩
theorem RSF.of {G : Hp} : ∀ {l : List D} {xs : List V}, RSL c G l xs → RSF c G (l.map fun d => (("" : Str), d)) (xs.map fun v => (("" : Str), v))
  | [], xs, h => by simp only [RSL] at h; subst h; simp [RSF]
  | d :: l, xs, h => by
    simp only [RSL] at h
    obtain ⟨x, r, rfl, p, q⟩ := h
    simp only [List.map_cons, RSF]
    exact ⟨x, _, rfl, p, RSF.of q⟩
theorem RS.view {G : Hp} {k : Nat} {l : List (Str × D)} {v : V} (h : RS c G (.obj k l) v) : RS c G (.tup (l.map fun p => p.2)) v := by
  simp only [RS] at h ⊢
  obtain ⟨a, fs, o, rfl, q, _, r⟩ := h
  exact ⟨a, _, rfl, .inl (.inr ⟨o, q⟩), r.vals⟩
theorem Post.tupx {H G : Hp} {l : List D} {xs : List V} {Q : VK} (h : Post c H G (.s (tupD l)) Q) (s : Sub G H) (r : RSL c G l xs) {p : Addr} {o : Obj} (hp : H p = none) (ho : o.dict = none) : Q (.ref p) (upd H p (.frz o (.tup xs))) := by
  have gp := s.no hp
  refine h _ _ (upd G p (.frz o (.tup xs))) [] (Grow.shared s hp) ?_
  unfold tupD
  simp only [RO, RS]
  refine ⟨⟨p, xs.map fun v => (("" : Str), v), o, rfl, ?_, ho, RSF.of (RSL.mono (Gle.upd gp) r)⟩, trivial⟩
  rw [upd_same, List.map_map]
  have e : (fun (p : Str × V) => p.2) ∘ (fun v : V => (("" : Str), v)) = id := rfl
  rw [e, List.map_id]
theorem cr_tupX (hK : X.K = c.K) : CallR X (.type "tuple") (rN1 c .tupX) := by
  intro pins s σ H xs us Q I r h
  obtain ⟨x, rfl, G, d, sb, t, q⟩ := h
  obtain ⟨u, rfl, rx⟩ := vals1 r
  cases d with
  | lst l =>
    obtain ⟨a, ys, rfl, sq, rs⟩ := t
    cases rx
    obtain ⟨its, rv, pl, hz⟩ := I.list (.inl sq)
    refine call_tuple_list pl.isList (fun h' hk => ?_) (by rw [List.size_toArray, ← rv.length]; exact hz)
    have I1 : Inv X pins σ H { s with heap := h' } := I.kept (t' := s.toks) hk
    have I2 : Inv X pins σ (upd H h'.objs.size (.frz { cls := .type "tuple", data := .seq its.toArray } (.tup ys))) { s with heap := h'.push { cls := .type "tuple", data := .seq its.toArray } } :=
      I1.laid (t' := s.toks) (fun b o e => Heap.get?_push_of_some _ e) (Nat.le_refl _) ⟨Heap.get?_push_size _ rfl, hz, its, rv, IsTup.new _ _⟩
    exact ⟨.ref h'.objs.size, _, I2, rfl, Post.tupx q sb rs (I1.hok.fresh (Nat.le_refl _)) rfl⟩
  | _ => exact q.elim
end
end MW
namespace MW
open L2 PyProof.Rows PySem.Spec PySem
section
variable {c : RC} {Ex : XK} {X : Cx}
mutual
theorem RS.dp {K : PySem.W.Frag} {H G : Hp} (hK : c.K = K) (s : Sub G H) : ∀ {d : D} {v : V} {p : PyData}, RS c G d v → toPy d = some p → Dp K H v p
  | .non, v, p, h, e => by simp only [RS] at h; simp only [toPy, Option.some.injEq] at e; subst h; subst e; exact .non
  | .bl b, v, p, h, e => by simp only [RS] at h; simp only [toPy, Option.some.injEq] at e; subst h; subst e; exact .bl _
  | .int b, v, p, h, e => by simp only [RS] at h; simp only [toPy, Option.some.injEq] at e; subst h; subst e; exact .int _
  | .str b, v, p, h, e => by simp only [RS] at h; simp only [toPy, Option.some.injEq] at e; subst h; subst e; exact .str _
  | .tup l, v, p, h, e => by
    simp only [RS] at h
    obtain ⟨a, xs, rfl, q, r⟩ := h
    simp only [toPy, Option.map_eq_some_iff] at e
    obtain ⟨ds, e1, rfl⟩ := e
    exact .tup (hK ▸ s.tup q) (RSL.dp hK s r e1)
  | .lst l, v, p, h, e => by
    simp only [RS] at h
    obtain ⟨a, xs, rfl, q, r⟩ := h
    simp only [toPy, Option.map_eq_some_iff] at e
    obtain ⟨ds, e1, rfl⟩ := e
    exact .lst (.inl (s.rd q)) (RSL.dp hK s r e1)
  | .scr l, v, p, h, e => by simp [toPy] at e
  | .dk l, v, p, h, e => by simp [toPy] at e
  | .dt l, v, p, h, e => by simp [toPy] at e
  | .obj k l, v, p, h, e => by simp [toPy] at e
theorem RSL.dp {K : PySem.W.Frag} {H G : Hp} (hK : c.K = K) (s : Sub G H) : ∀ {l : List D} {xs : List V} {ps : List PyData}, RSL c G l xs → toPys l = some ps → DpAll K H xs ps
  | [], xs, ps, h, e => by simp only [RSL] at h; simp only [toPys, Option.some.injEq] at e; subst h; subst e; exact .nil
  | d :: l, xs, ps, h, e => by
    simp only [RSL] at h
    obtain ⟨x, r, rfl, p, q⟩ := h
    simp only [toPys] at e
    split at e
    · rename_i y ys e1 e2
      cases e
      exact .cons (RS.dp hK s p e1) (RSL.dp hK s q e2)
    · cases e
end
/-! ### sorting -/
theorem alikeB_ok {ks : List PyData} (h : alikeB ks = true) : PySem.W.AllAlike ks := fun d hd d' hd' => by
  unfold alikeB at h
  exact List.all_eq_true.mp (List.all_eq_true.mp h d hd) d' hd'
theorem sortOk_ok {ks : List PyData} (h : sortOk ks = true) : PySem.W.AllAlike ks ∧ PySem.W.Sortable ks ∧ ∀ d ∈ ks, d.depth ≤ 32 := by
  unfold sortOk at h
  simp only [Bool.and_eq_true, Bool.or_eq_true] at h
  obtain ⟨⟨h1, h2⟩, h3⟩ := h
  refine ⟨alikeB_ok h1, ?_, fun d hd => of_decide_eq_true (List.all_eq_true.mp h3 d hd)⟩
  rcases h2 with h2 | h2
  · refine .inl fun d hd => ?_
    have q := List.all_eq_true.mp h2 d hd
    unfold tupNE at q
    split at q
    · exact ⟨_, _, rfl⟩
    · cases q
  · refine .inr fun d hd => ?_
    have q := List.all_eq_true.mp h2 d hd
    constructor
    · rintro rfl; cases q
    · rintro xs rfl; cases q
theorem toPys_keyOf : ∀ {l : List D} {ks : List PyData}, toPys l = some ks → l.map keyOf = ks
  | [], ks, h => by simp only [toPys, Option.some.injEq] at h; subst h; rfl
  | d :: l, ks, h => by
    simp only [toPys] at h
    split at h
    · rename_i x r h1 h2
      cases h
      simp only [List.map_cons, toPys_keyOf h2, keyOf, h1, Option.getD_some]
    · cases h
theorem toPys_len {l : List D} {ks : List PyData} (h : toPys l = some ks) : ks.length = l.length := by
  rw [← toPys_keyOf h, List.length_map]
theorem Vals.each {β : Type} {R : Value → V × β → Prop} : ∀ {ys : List V} {us : List Value} {l : List β}, Vals ys us → l.length = ys.length → (∀ y u b, RelV y u → (y, b) ∈ ys.zip l → R u (y, b)) → PySem.W.EachIs R us (ys.zip l)
  | [], us, l, h, e, w => by
    cases h
    exact .nil
  | y :: ys, us, [], h, e, w => by simp at e
  | y :: ys, us, b :: l, h, e, w => by
    cases h with
    | cons r1 r2 =>
      refine .cons (w _ _ _ r1 (by simp)) (Vals.each r2 (by simpa using e) fun y u b r m => w y u b r (by simp [m]))
theorem Each.vals {β : Type} : ∀ {us : List Value} {bs : List (V × β)}, PySem.W.EachIs (fun u b => RelV b.1 u) us bs → Vals (bs.map (·.1)) us
  | _, _, .nil => .nil
  | _, _, .cons h1 t => .cons h1 (Each.vals t)
theorem RSL.zip {G : Hp} : ∀ {l : List D} {xs : List V}, RSL c G l xs → ∀ b ∈ xs.zip l, RS c G b.2 b.1
  | [], xs, h, b, m => by simp at m
  | d :: l, xs, h, b, m => by
    simp only [RSL] at h
    obtain ⟨x, r, rfl, p, q⟩ := h
    simp only [List.zip_cons_cons, List.mem_cons] at m
    rcases m with rfl | m
    · exact p
    · exact RSL.zip q b m
theorem RSL.of {G : Hp} : ∀ {bs : List (V × D)}, (∀ b ∈ bs, RS c G b.2 b.1) → RSL c G (bs.map (·.2)) (bs.map (·.1))
  | [], h => by simp [RSL]
  | b :: bs, h => by
    simp only [List.map_cons, RSL]
    exact ⟨b.1, _, rfl, h b (by simp), RSL.of fun b' m => h b' (by simp [m])⟩
theorem sort_run (hK : X.K = c.K) (hu : X.A.units + 64 < cLine) {pins : List (Addr × Obj)} {s : Shared} {σ : L2.St} {H G : Hp} {a : Addr} {ys : List V} {l : List D} {Q : VK} (I : Inv X pins σ H s) (sb : Sub G H) (hs : SqL X.K H a ys ∨ SqT X.K H a ys) (rs : RSL c G l ys) (q : PostO c H G (sortD l) Q) :
    wpAny (model X.prog X.w) X.A (call (.builtin "sorted") [.ref a]) (EP X pins σ Q) X.xe s := by
  unfold sortD at q
  split at q
  · rename_i ks hks
    split at q
    · rename_i hok
      obtain ⟨hok, hlen⟩ := hok
      obtain ⟨hal, hsk, hdp⟩ := sortOk_ok hok
      obtain ⟨its, rv, hl, hz⟩ : ∃ its, Vals ys its ∧ (s.heap.IsList a its.toArray ∨ s.heap.IsTuple a its.toArray) ∧ ys.length ≤ sizeLine := by
        rcases hs with h | h
        · obtain ⟨its, rv, hl, hz⟩ := I.list h
          exact ⟨its, rv, .inl hl.isList, hz⟩
        · obtain ⟨its, rv, ht, hz⟩ := I.tuple h
          exact ⟨its, rv, .inr ht, hz⟩
      have el : l.length = ys.length := rs.len.symm
      have ek : (ys.zip l).map (fun b : V × D => keyOf b.2) = ks := by
        rw [← toPys_keyOf hks]
        have : (ys.zip l).map (fun b : V × D => keyOf b.2) = ((ys.zip l).map Prod.snd).map keyOf := by rw [List.map_map]; rfl
        rw [this, List.map_snd_zip (by omega)]
      have hb : ∀ y b, (y, b) ∈ ys.zip l → ∃ p, toPy b = some p ∧ Dp X.K H y p := fun y b m => by
        have e1 : RS c G b y := rs.zip _ m
        have m2 : b ∈ l := (List.of_mem_zip m).2
        have e2 : ∃ p, toPy b = some p := by
          clear ek q rs hal hsk hdp hlen el hok e1 m
          induction l generalizing ks with
          | nil => cases m2
          | cons d l ih =>
            simp only [toPys] at hks
            split at hks
            · rename_i x r h1 h2
              rcases List.mem_cons.mp m2 with rfl | m2
              · exact ⟨x, h1⟩
              · exact ih _ h2 m2
            · cases hks
        obtain ⟨p, hp⟩ := e2
        exact ⟨p, hp, RS.dp hK.symm sb e1 hp⟩
      refine sorted_dataT (β := V × D) (R := fun u b => RelV b.1 u) (enc := fun b => keyOf b.2) (bs := ys.zip l) hl
        (Vals.each rv el fun y u b r _ => r) (Vals.each rv el fun y u b r m => ?_) (by rw [ek]; exact hal) (by rw [ek]; exact hsk) ?_ (fun b m => ?_) fun out ho eo => ?_
      · obtain ⟨p, hp, dp⟩ := hb y b m
        have e : keyOf b = p := by unfold keyOf; rw [hp]; rfl
        show ∃ as, Reads s.heap u (keyOf b) as
        rw [e]
        exact dp.reads I _ _ _ r
      · rw [List.length_zip]
        omega
      · have : keyOf b.2 ∈ ks := by rw [← ek]; exact List.mem_map.mpr ⟨b, m, rfl⟩
        have := hdp _ this
        omega
      · obtain ⟨ep, he'⟩ := PyProof.Rows.sortedAll_at s.heap its out.toArray
        have perm := List.mergeSort_perm (ys.zip l) (PySem.W.dataLe false fun b : V × D => keyOf b.2)
        have vals := Each.vals eo
        have hn : H (s.heap.objs.size + 1) = none := I.hok.fresh (Nat.le_succ _)
        have e3 : ((ys.zip l).mergeSort (PySem.W.dataLe false fun b : V × D => keyOf b.2)).map (·.2) = l.mergeSort (PySem.W.dataLe false keyOf) := by
          refine (List.map_mergeSort (r := PySem.W.dataLe false fun b : V × D => keyOf b.2) (s := PySem.W.dataLe false keyOf) (f := Prod.snd) (fun _ _ _ _ => rfl)).trans ?_
          rw [List.map_snd_zip (by omega)]
        have rs2 : RSL c G (l.mergeSort (PySem.W.dataLe false keyOf)) (((ys.zip l).mergeSort (PySem.W.dataLe false fun b : V × D => keyOf b.2)).map (·.1)) := by
          rw [← e3]
          exact RSL.of fun b m => rs.zip b (perm.mem_iff.mp m)
        have hlen2 : (((ys.zip l).mergeSort (PySem.W.dataLe false fun b : V × D => keyOf b.2)).map (·.1)).length ≤ sizeLine := by
          rw [List.length_map, perm.length_eq, List.length_zip]
          omega
        exact ⟨.ref _, _, I.laid (t' := s.toks) (o := .lst _) (fun _ _ => PyProof.Rows.sortedAll_old) (Nat.le_succ _) ⟨hlen2, out, ep, vals, he'⟩, rfl, Post.lst q sb rs2 hn⟩
    · exact q.elim
  · exact q.elim
theorem cr_sorted' (hK : X.K = c.K) (hu : X.A.units + 64 < cLine) : CallR X (.builtin "sorted") (rN1 c .sorted) := by
  intro pins s σ H xs us Q I rv h
  obtain ⟨x, rfl, G, d, sb, t, q⟩ := h
  obtain ⟨u, rfl, ru⟩ := vals1 rv
  cases d with
  | lst l =>
    obtain ⟨a, ys, rfl, sq, rs⟩ := t
    obtain rfl : u = Value.ref a := ru
    exact sort_run hK hu I sb (.inl (.inl sq)) rs q
  | scr l =>
    obtain ⟨a, ys, rfl, sq, rs⟩ := t
    obtain rfl : u = Value.ref a := ru
    exact sort_run hK hu I sb (.inl (by rw [hK]; exact sq)) rs q
  | tup l =>
    obtain ⟨a, ys, rfl, sq, rs⟩ := RT.tup c sb t
    obtain rfl : u = Value.ref a := ru
    exact sort_run hK hu I sb (.inr (by rw [hK]; exact sq)) rs q
  | _ => exact q.elim
end
end MW
namespace MW
open L2 PyProof.Rows PySem.Spec PySem
/-! ### sorted(xs, key=f), f a def -/
section
variable {prog : Program} {w : World} {A : Around} {E : Value → Shared → Prop} {s : Shared} {P : PySem.Fin → Shared → Prop}
/-- ahead of the keys: the list is emptied, a list for the keys is made -/
theorem tree_in {a : Addr} {n : Nat} {vs : List Value} {f : Value} {b : Bool} (ho : s.heap.get? a = some (seqObj "list" vs.toArray n)) (hZ : vs.length ≤ sizeLine)
    (next : ∀ (g : Heap) (kS : Addr) (c : Nat), (∀ b o, b ≠ a → s.heap.get? b = some o → g.get? b = some o) → s.heap.objs.size ≤ kS → g.get? kS = some (seqObj "list" #[] 0) → g.get? a = some (seqObj "list" #[] c) →
      wpAny (model prog w) A (ksk_rest a f b vs.toArray c (.ref kS)) P E { s with heap := g }) : wpAny (model prog w) A (ksk_tree a f b) P E s := by
  obtain ⟨c, hc⟩ : ∃ c, (s.heap.update a (Obj.mapSeq fun _ => (#[] : Array Value))).get? a = some (seqObj "list" #[] c) := ⟨_, get?_update_seq ho fun _ => #[]⟩
  have sz : ((s.heap.update a (Obj.mapSeq fun _ => (#[] : Array Value))).push (seqObj "tuple" vs.toArray 0)).objs.size = s.heap.objs.size + 1 := by
    rw [size_push', Heap.size_update]
  have z1 : vs.toArray.size ≤ sizeLine := by rw [List.size_toArray]; exact hZ
  unfold ksk_tree
  apply wpAny_bind
  apply listItems_at ho rfl
  apply wpAny_bind
  refine (listUpdate_at ho rfl ?_ z1 (Nat.zero_le _))
  apply wpAny_bind
  apply seqEpoch_at hc rfl
  apply wpAny_bind
  refine (wpAny_newTuple ?_ hZ)
  apply wpAny_bind
  refine (wpAny_newList ?_ (Nat.zero_le _))
  apply wpAny_holding
  refine next _ _ c (fun b o hb q => ?_) ?_ (Heap.get?_push_size _ rfl) (Heap.get?_push_of_some _ (Heap.get?_push_of_some _ hc))
  · exact Heap.get?_push_of_some _ (Heap.get?_push_of_some _ ((Heap.get?_update_ne _ _ _ _ hb).trans q))
  · rw [sz]; exact Nat.le_succ _
end
section
variable {c : RC} {Ex : XK} {X : Cx}
theorem frs_lt {pins : List (Addr × Obj)} {s : Shared} {σ : L2.St} {H : Hp} (I : Inv X pins σ H s) : ∀ b ∈ frs X.stack, b < s.heap.objs.size := fun b hb => by
  obtain ⟨_, o, e, _⟩ := I.stack.mem hb
  exact Heap.lt_size e
/-- an address that is new at a state of ours is a record of ours -/
theorem fresh_ch {pins : List (Addr × Obj)} {s : Shared} {σ : L2.St} {H : Hp} (I : Inv X pins σ H s) {b : Addr} (hb : s.heap.objs.size ≤ b) :
    (b ∈ X.ex ∨ X.s_0.heap.objs.size ≤ b) ∧ b ≠ X.env.locals ∧ (∀ x c, X.env.cells.lookup x = some c → c ≠ b) ∧ ∀ p ∈ X.pn ++ pins, p.1 ≠ b := by
  refine ⟨.inr (Nat.le_trans I.sz hb), fun e => ?_, fun x c hc e => ?_, fun p hp e => ?_⟩
  · have := I.lt
    rw [e] at hb
    exact absurd this (Nat.not_lt.mpr hb)
  · obtain ⟨v, o, ho, _⟩ := I.cell x c hc
    have := Heap.lt_size ho
    rw [e] at this
    exact absurd this (Nat.not_lt.mpr hb)
  · have := Heap.lt_size (I.pin p hp).1
    rw [e] at this
    exact absurd this (Nat.not_lt.mpr hb)
theorem hok_new {P : Program} {w : World} {H : Hp} {h h' : Heap} {a : Addr} {o : HO} (x : HOk P w H h) (k : ∀ b u, h.get? b = some u → h'.get? b = some u) (hn : H a = none) (new : ObjOk P w (upd H a o) h' a o) :
    HOk P w (upd H a o) h' := fun b u e => by
  have up : ∀ d z, H d = some z → upd H a o d = some z := fun d z q => by
    rw [upd_ne (fun e => by rw [e, hn] at q; cases q)]
    exact q
  by_cases hb : b = a
  · subst hb
    rw [upd_same] at e
    cases e
    exact new
  · rw [upd_ne hb] at e
    exact (x b u e).stay (fun d v _ q => k d v q) (fun d q => up _ _ q) fun d ys q => up _ _ q
def sortZ (xs : List V) (kz : List PyData) : List V := ((xs.zip kz).mergeSort (PySem.W.dataLe false Prod.snd)).map Prod.fst
theorem DpAll.each {pins : List (Addr × Obj)} {s : Shared} {σ : L2.St} {H : Hp} (I : Inv X pins σ H s) : ∀ {ks : List V} {us : List Value} {kz : List PyData}, Vals ks us → DpAll X.K H ks kz → PySem.W.EachIs (fun v k => ∃ as, Reads s.heap v k as) us kz
  | _, _, _, .nil, h => by cases h; exact .nil
  | _, _, _, .cons r1 r2, h => by
    cases h with
    | cons h1 h2 => exact .cons (h1.reads I _ _ _ r1) (DpAll.each I r2 h2)
theorem DpAll.len {K : PySem.W.Frag} {H : Hp} : ∀ {ks : List V} {kz : List PyData}, DpAll K H ks kz → kz.length = ks.length
  | _, _, .nil => rfl
  | _, _, .cons _ h => by simp [DpAll.len h]
set_option maxHeartbeats 1000000 in
theorem skey_run {k : Nat} {fa : Addr} {fd : FuncData} {ps : List Str} {sp : Sp} (F : FnOk X.prog X.w X.K X.mg X.base (L2N.CX X.prog X.w) k fa fd ps sp) (hr : Room k X.A.in1.in1) (hb : Binds X.K fd ps []) (hu : X.A.units + 64 < cLine)
    {pins : List (Addr × Obj)} {s : Shared} {σ : L2.St} {H : Hp} {a : Addr} {xs : List V} {Q : VK} (I : Inv X pins σ H s) (hs : SqL X.K H a xs) (W : Nat → List V → Hp → Prop) (w0 : W 0 [] H)
    (wS : ∀ i x ks H1, xs[i]? = some x → W i ks H1 → sp [x] H1 (fun v H2 => W (i + 1) (ks ++ [v]) H2) (fun _ _ _ => False))
    (wE : ∀ ks H1, W xs.length ks H1 → ∃ kz, DpAll X.K H1 ks kz ∧ PySem.W.AllAlike kz ∧ PySem.W.Sortable kz ∧ (∀ d ∈ kz, d.depth ≤ 32) ∧ ∀ p, H1 p = none → Q (.ref p) (upd H1 p (.lst (sortZ xs kz)))) :
    wpAny (model X.prog X.w) X.A (call (.builtin "sorted") [.ref a] [(Str.ofString "key", .ref fa)]) (EP X pins σ Q) X.xe s := by
  obtain ⟨its, rv, hl, hz⟩ := I.list hs
  have el := rv.length
  have hzl : its.length ≤ sizeLine := by rw [← el]; exact hz
  refine PySem.W.sorted_of_sort hl.isList hzl (PyProof.Rows.ksk_s1 _ _) (fun _ => PyProof.Rows.ksk_l1 _ _) fun E' => ?_
  rw [PyProof.Rows.ksk_t1]
  have frA := frs_lt I
  obtain ⟨a0, ea⟩ : ∃ a0, a0 = s.heap.objs.size + 1 := ⟨_, rfl⟩
  have at0 := PySem.W.copyHeap_at s.heap its
  have cp : ∀ b o, s.heap.get? b = some o → (PySem.W.copyHeap s.heap its).get? b = some o := fun b o q => PySem.W.copyHeap_old q
  rw [← ea] at at0 ⊢
  refine tree_in (s := { s with heap := PySem.W.copyHeap s.heap its }) at0 hzl fun g kS cc keep hkS nk na => ?_
  have hka : kS ≠ a0 := by
    have := Heap.lt_size at0
    have hkS : (PySem.W.copyHeap s.heap its).objs.size ≤ kS := hkS
    intro e
    rw [e] at hkS
    exact absurd this (Nat.not_lt.mpr hkS)
  have szS : s.heap.objs.size ≤ kS := by
    have := Heap.lt_size at0
    have hkS : (PySem.W.copyHeap s.heap its).objs.size ≤ kS := hkS
    have szA : s.heap.objs.size ≤ a0 := by rw [ea]; exact Nat.le_succ _
    exact Nat.le_trans szA (Nat.le_of_lt (Nat.lt_of_lt_of_le this hkS))
  have szA : s.heap.objs.size ≤ a0 := by rw [ea]; exact Nat.le_succ _
  have I0 : Inv X pins σ H { s with heap := g } := I.kept (t' := s.toks) fun b o q => keep b o (fun e => by have := Heap.lt_size q; rw [e] at this; exact absurd this (Nat.not_lt.mpr szA)) (cp b o q)
  have chS := fresh_ch I szS
  have chA := fresh_ch I szA
  have nfS : kS ∉ frs X.stack := fun z => absurd (frA _ z) (Nat.not_lt.mpr szS)
  have nfA : a0 ∉ frs X.stack := fun z => absurd (frA _ z) (Nat.not_lt.mpr szA)
  unfold ksk_rest
  apply wpAny_bind
  apply wpAny_rule
  rw [List.forIn_toArray]
  apply wpAny_bind
  refine (ksk_fold (fun i s' => ∃ (ks : List V) (H1 : Hp) (kA : Array Value) (e : Nat), Inv X pins σ H1 s' ∧ W i ks H1 ∧ s'.heap.get? kS = some (seqObj "list" kA e) ∧ s'.heap.get? a0 = some (seqObj "list" #[] cc) ∧ H1 kS = none ∧ H1 a0 = none ∧ Vals ks kA.toList ∧ ks.length = i) its 0 _
    ⟨[], H, #[], 0, I0, w0, nk, na, I.hok.fresh szS, I.hok.fresh szA, .nil, rfl⟩ ?_ ?_)
  · rintro j x s' hx ⟨ks, H1, kA, e, I', hW, nk', na', fS, fA, rk, lk⟩
    simp only [Nat.zero_add] at hW lk ⊢
    obtain ⟨y, hy, ry⟩ : ∃ y, xs[j]? = some y ∧ RelV y x := by
      have hj : j < xs.length := by rw [el]; exact (List.getElem?_eq_some_iff.mp hx).1
      obtain ⟨u, hu', ru⟩ := rv.get (List.getElem?_eq_getElem hj)
      rw [hx] at hu'
      cases hu'
      exact ⟨_, List.getElem?_eq_getElem hj, ru⟩
    have hj : j < its.length := (List.getElem?_eq_some_iff.mp hx).1
    have hsp := wS j y ks H1 hy hW
    have hlen := F.len _ _ _ _ hsp
    apply wpAny_bind
    apply wpAny_attempt
    refine wpAny_call (codeAny_mono (F.run _ X.stack s' H1 ⟨[x], []⟩ [x] [y] _ _ hr I'.env0.in1.in1 (by simpa using hb s' [x] I'.kIn (by simpa using hlen)) (.cons ry .nil) hsp) fun r s2 hq => ?_)
    cases r with
    | error e =>
      obtain ⟨_, _, _, _, _, _, _, _, _, _, _, _, z⟩ := hq
      exact z.elim
    | ok fl =>
      cases fl with
      | next => exact False.elim hq
      | brk => exact False.elim hq
      | cont => exact False.elim hq
      | ret u =>
        obtain ⟨v, H2, os, bare, un, hok, rvu, q⟩ := hq
        have I2 : Inv X pins σ H2 s2 := I'.call' os un hok bare (fun b z => absurd z (by simp))
        have nk2 := un.keep kS _ nk' fS nfS (by simp)
        have na2 := un.keep a0 _ na' fA nfA (by simp)
        have fS2 := un.free kS _ nk' fS (by simp)
        have fA2 := un.free a0 _ na' fA (by simp)
        have kz : kA.size ≤ sizeLine := by
          have h1 : ks.length = kA.toList.length := rk.length
          have h2 : kA.toList.length = kA.size := Array.length_toList
          rw [← h2, ← h1, lk]
          exact Nat.le_trans (Nat.le_of_lt hj) hzl
        have kz2 : (kA.push u).size ≤ sizeLine + 1 := by rw [Array.size_push]; omega
        obtain ⟨e2, he2⟩ : ∃ e2, (s2.heap.update kS (Obj.mapSeq (·.push u))).get? kS = some (seqObj "list" (kA.push u) e2) := ⟨_, get?_update_seq nk2 (·.push u)⟩
        have other : ∀ b o, b ≠ kS → s2.heap.get? b = some o → (s2.heap.update kS (Obj.mapSeq (·.push u))).get? b = some o := fun b o hne q => (Heap.get?_update_ne _ _ _ _ hne).trans q
        show wpAny _ _ (Builtin.List.listUpdate (.ref kS) (·.push u) >>= _) _ _ _
        apply wpAny_bind
        refine listUpdate_at nk2 rfl ?_ kz kz2
        apply wpAny_pure
        refine ⟨rfl, ks ++ [v], H2, kA.push u, e2, I2.turned (t' := s2.toks) other fS2 chS.2.1 chS.1 chS.2.2.1 chS.2.2.2, q, he2, other _ _ hka.symm na2, fS2, fA2, ?_, by simp [lk]⟩
        rw [Array.toList_push]
        exact rk.append (.cons rvu .nil)
  · rintro s' ⟨ks, H1, kA, e, I', hW, nk', na', fS, fA, rk, lk⟩
    simp only [Nat.zero_add] at hW lk
    rw [← el] at hW
    obtain ⟨kz, dp, hal, hsk, hdp, q⟩ := wE ks H1 hW
    have ek := DpAll.each I' rk dp
    have lz : kz.length = xs.length := by rw [DpAll.len dp, lk, el]
    have sk : kA.size = its.length := by
      have h1 : ks.length = kA.toList.length := rk.length
      have h2 : kA.toList.length = kA.size := Array.length_toList
      rw [← h2, ← h1, lk]
    apply wpAny_bind
    apply listItems_at nk' rfl
    obtain ⟨G, g1, g2⟩ := restrict s'.heap fun b => decide (b ≠ kS)
    have gS : G.get? kS = none := g2 kS (by simp)
    have gk : ∀ b o, b ≠ kS → s'.heap.get? b = some o → G.get? b = some o := fun b o hne q => (g1 b (by simp [hne])).trans q
    have gl : ∀ b o, G.get? b = some o → s'.heap.get? b = some o := fun b o q => by
      by_cases hne : b = kS
      · rw [hne, gS] at q; cases q
      · rw [← g1 b (by simp [hne])]; exact q
    refine PySem.W.keyH_end (κ := PySem.W.dataKind s'.heap kz) (h₁ := G) (fun b o _ q => gl b o q) gS nk' na' hka
      (PySem.W.SortsAt.data (s := s') ek hal hsk fun d hd => by have := hdp d hd; show X.A.units + 1 + 1 + d.depth < cLine; omega) sk hzl fun h3 tk3 c3 k3 n3 => ?_
    refine ⟨rfl, ?_⟩
    obtain ⟨out, eout⟩ : ∃ out, out = PySem.W.sortVals (PySem.W.dataKind s'.heap kz) false kA.toList its := ⟨_, rfl⟩
    rw [← eout] at n3
    have ez : (xs.zip kz).map Prod.snd = kz := List.map_snd_zip (by omega)
    have ko : PySem.W.KeyedOut false ((xs.zip kz).map Prod.snd) its out := ⟨s'.heap, kA.toList, by rw [ez]; exact hal, by rw [ez]; exact eout, by rw [ez]; exact ek⟩
    have eo := PySem.W.keyedOut_each (R := fun u b => RelV b.1 u) (bs := xs.zip kz) Prod.snd ko (Vals.each rv lz fun y u b r _ => r)
    have vals := Each.vals eo
    have ln : (sortZ xs kz).length ≤ sizeLine := by
      unfold sortZ
      rw [List.length_map, List.length_mergeSort, List.length_zip]
      omega
    have keep3 : ∀ b o, b ≠ a0 → b ≠ kS → s'.heap.get? b = some o → h3.get? b = some o := fun b o n1 n2 q => k3 b o n1 (gk b o n2 q)
    obtain ⟨G2, p1, p2⟩ := restrict s'.heap fun b => decide (b ≠ kS) && decide (b ≠ a0)
    have pk : ∀ b o, b ≠ kS → b ≠ a0 → s'.heap.get? b = some o → G2.get? b = some o := fun b o n1 n2 q => (p1 b (by simp [n1, n2])).trans q
    have pl : ∀ b o, G2.get? b = some o → h3.get? b = some o := fun b o q => by
      by_cases n1 : b = kS
      · have := p2 b (by simp [n1]); rw [this] at q; cases q
      · by_cases n2 : b = a0
        · have := p2 b (by simp [n2]); rw [this] at q; cases q
        · rw [p1 b (by simp [n1, n2])] at q
          exact keep3 b o n2 n1 q
    have hokG : HOk X.prog X.w H1 G2 := fun b o q => (I'.hok b o q).stay (fun d u hd r => by
      have hne : H1 d ≠ none := by
        rcases hd with rfl | hd
        · rw [q]; simp
        · rw [hd]; simp
      exact pk d u (fun e => hne (by rw [e]; exact fS)) (fun e => hne (by rw [e]; exact fA)) r) (fun _ r => r) fun _ _ r => r
    have hok3 : HOk X.prog X.w (upd H1 a0 (.lst (sortZ xs kz))) h3 := hok_new hokG pl fA ⟨ln, out, c3, vals, n3⟩
    have nt3 : ∀ b o, H1 b = some o → upd H1 a0 (.lst (sortZ xs kz)) b = some o := fun b o r => by
      rw [upd_ne (fun e => by rw [e, fA] at r; cases r)]; exact r
    have un : Un (frs X.stack) [a0, kS] H1 (upd H1 a0 (.lst (sortZ xs kz))) s'.heap h3 := by
      refine ⟨fun b o q n _ hb => ?_, fun b o q n _ hb => ?_, fun b o q n hb => ?_, fun b o q hb => ?_, fun b ys r => nt3 _ _ r, fun b o u r => nt3 _ _ r, fun b ps r => ⟨#[], by rw [nt3 _ _ r]; simp⟩⟩
      all_goals simp only [List.mem_cons, List.not_mem_nil, or_false, not_or] at hb
      · exact keep3 b o hb.1 hb.2 q
      · exact ⟨o.slots, keep3 b o hb.1 hb.2 q⟩
      · rw [upd_ne hb.1]; exact n
      · exact ⟨o, keep3 b o hb.1 hb.2 q⟩
    exact ⟨.ref a0, _, I'.call' (s' := { s' with heap := h3, toks := tk3 }) rfl un hok3 I'.bare (fun b z => by
      simp only [List.mem_cons, List.not_mem_nil, or_false] at z
      rcases z with rfl | rfl
      · exact chA
      · exact chS), rfl, q a0 fA⟩
end
end MW
namespace MW
open L2 PyProof.Rows PySem.Spec PySem
/-- len(set(xs)), xs a list of numbers, some of them twice perhaps -/
def tSetN (K : PySem.W.Frag) (ta : TE) : TE := fun σ H Q => ta σ H fun x H1 => ∃ (l : Addr) (ns : List Int), x = .ref l ∧ SqL K H1 l (ns.map V.int) ∧ ns.length ≤ 4000 ∧ Q (.int (ddN ns : Nat)) H1
theorem pe_setN {X : Cx} {a : Expr} {ta : TE} {p p2 q pos : Pos} (g1 : Gl X "len") (m1 : X.mg "len" = none) (g2 : Gl X "set") (m2 : X.mg "set" = none) (ha : PE X a ta) (calm : X.calm = true)
    (na : starEach [a] X.env = (false, eval a X.env) :: starEach [] X.env) : PE X (.Call (.Name "len" p) [.Call (.Name "set" p2) [a] [] q] [] pos) (tSetN X.K ta) :=
  ⟨fun pins s σ H Q I h => by
    refine Call_ (ld_blt I g1 m1 boot_len (PyProof.Rows.callWith_builtin1 (PyProof.Rows.args_cons ?_ rfl) rfl rfl))
    refine Call_ (ld_blt I g2 m2 boot_set (PyProof.Rows.callWith_type1 (PyProof.Rows.args_cons (thn (ha.run pins s σ H _ I h) fun v s1 ⟨x, H1, J, rx, q1⟩ => PyProof.Rows.args_nil ?_) na) na rfl))
    obtain ⟨l, ns, rfl, hq, hl, q1⟩ := q1
    cases rx
    obtain ⟨us, r, pl, _⟩ := J.list hq
    have e : us.toArray.size = ns.length := by rw [List.size_toArray, ← r.length, List.length_map]
    have le : ddN ns ≤ ns.length := PyProof.Rows.firstMet_length_le _ _
    refine call_set_list (J.ok.hd calm) pl.isList (by simpa using RZ.intsAre_vals r) (by rw [e]; unfold scanBound; omega) fun h' tk S kp => PyProof.Rows.args_nil ?_
    rw [e] at S
    obtain ⟨o, es, ep, t, ho, hex, hd, _, _, _, hf, hn⟩ := S
    have hn : es.size = ddN ns := hn
    have J2 : Inv X pins σ H1 { s1 with heap := h', toks := tk } := J.kept fun b o e => kp b o (Heap.lt_size e) e
    exact call_len_set ho hex hd hf (by rw [hn]; omega) ⟨.int (ddN ns : Nat), H1, J2.tok _, ⟨_, by rw [hn]⟩, q1⟩⟩
section
variable {c : RC} {Ex : XK} {X : Cx}
theorem PostO.map {α : Type} {H G : Hp} {o : Option α} {f : α → OD} {Q : VK} (h : PostO c H G (o.map f) Q) : ∃ a, o = some a ∧ Post c H G (f a) Q := by
  cases o with
  | none => exact h.elim
  | some a => exact ⟨a, rfl, h⟩
theorem PostO.bind {α : Type} {H G : Hp} {o : Option α} {f : α → Option OD} {Q : VK} (h : PostO c H G (o.bind f) Q) : ∃ a, o = some a ∧ PostO c H G (f a) Q := by
  cases o with
  | none => exact h.elim
  | some a => exact ⟨a, rfl, h⟩
theorem PostO.ite {p : Prop} [Decidable p] {H G : Hp} {o : OD} {Q : VK} (h : PostO c H G (if p then some o else none) Q) : p ∧ Post c H G o Q := by
  split at h
  · exact ⟨by assumption, h⟩
  · exact h.elim
theorem RT.sc {H G : Hp} {d : D} {v : V} (h : RT c H G d v) (i : Int) (e : d = .int i) : v = .int i := by subst e; simpa only [RT, RS] using h
theorem RT.int {H G : Hp} {i : Int} {v : V} (h : RT c H G (.int i) v) : v = .int i := by simpa only [RT, RS] using h
theorem RT.bl {H G : Hp} {i : Bool} {v : V} (h : RT c H G (.bl i) v) : v = .bl i := by simpa only [RT, RS] using h
theorem RT.str {H G : Hp} {i : Str} {v : V} (h : RT c H G (.str i) v) : v = .str i := by simpa only [RT, RS] using h
theorem rsInt {G : Hp} (i : Int) : RS c G (.int i) (.int i) := by simp only [RS]
theorem rsBl {G : Hp} (i : Bool) : RS c G (.bl i) (.bl i) := by simp only [RS]
theorem rsStr {G : Hp} (i : Str) : RS c G (.str i) (.str i) := by simp only [RS]
theorem rsNon {G : Hp} : RS c G .non .non := by simp only [RS]
theorem RT.isNon {H G : Hp} {d : D} {v : V} (h : RT c H G d v) : decide (v = .non) = d.isN := by
  cases d with
  | non => obtain rfl : v = .non := by simpa only [RT, RS] using h
           rfl
  | bl b => obtain rfl := h.bl; rfl
  | int b => obtain rfl := h.int; rfl
  | str b => obtain rfl := h.str; rfl
  | tup l => simp only [RT, RS] at h; obtain ⟨a, xs, rfl, _⟩ := h; rfl
  | lst l => obtain ⟨a, xs, rfl, _⟩ := h; rfl
  | scr l => obtain ⟨a, xs, rfl, _⟩ := h; rfl
  | dk l => obtain ⟨a, xs, rfl, _⟩ := h; rfl
  | dt l => obtain ⟨a, xs, rfl, _⟩ := h; rfl
  | obj k l => simp only [RT, RS] at h; obtain ⟨a, dx, xs, rfl, _⟩ := h; rfl
  | clo k l => simp only [RT, RS] at h; obtain ⟨_, _, rfl, _⟩ := h; rfl
  | kt ks => simp only [RT, RS] at h; obtain ⟨a, rfl, _⟩ := h; rfl
theorem cr_str' : CallR X (.type "str") (rN1 c .strOf) := by
  refine CallR.weak call_str_int fun xs H Q h => ?_
  obtain ⟨x, rfl, G, d, s, t, q⟩ := h
  cases d with
  | int i =>
    obtain rfl := t.int
    obtain ⟨hz, q⟩ := PostO.ite (c := c) q
    exact ⟨i, rfl, hz, Post.sc q s (rsStr _)⟩
  | _ => exact q.elim
theorem cr_int' : CallR X (.type "int") (rN1 c .intOf) := by
  refine CallR.weak (call_int1.or call_int_str) fun xs H Q h => ?_
  obtain ⟨x, rfl, G, d, s, t, q⟩ := h
  cases d with
  | int i =>
    obtain rfl := t.int
    exact .inl (.inl ⟨i, rfl, Post.sc q s (rsInt _)⟩)
  | bl i =>
    obtain rfl := t.bl
    exact .inl (.inr ⟨i, rfl, Post.sc q s (rsInt _)⟩)
  | str x =>
    obtain rfl := t.str
    have q : PostO c H G (if x.length ≤ 640 then (PySem.intText? x).map fun n => .s (.int n) else none) Q := q
    by_cases hz : x.length ≤ 640
    case neg => rw [if_neg hz] at q; exact q.elim
    rw [if_pos hz] at q
    obtain ⟨n, e, q⟩ := PostO.map (c := c) q
    exact .inr ⟨x, n, rfl, e, hz, Post.sc q s (rsInt _)⟩
  | _ => exact q.elim
theorem cr_all' (hc : X.calm = true) (hK : X.K = c.K) : CallR X (.builtin "all") (rN1 c .allL) := by
  refine CallR.weak (cr_all hc) fun xs H Q h => ?_
  obtain ⟨x, rfl, G, d, s, t, q⟩ := h
  cases d with
  | lst l =>
    obtain ⟨a, ys, rfl, sq, rs⟩ := t
    obtain ⟨bs, e, q⟩ := PostO.map q
    rw [hK]
    obtain rfl := rs.bls e
    exact ⟨a, bs, rfl, .inl sq, Post.sc q s (rsBl _)⟩
  | _ => exact q.elim
theorem cr_any' (hc : X.calm = true) (hK : X.K = c.K) : CallR X (.builtin "any") (rN1 c .anyL) := by
  refine CallR.weak (cr_any hc) fun xs H Q h => ?_
  obtain ⟨x, rfl, G, d, s, t, q⟩ := h
  cases d with
  | lst l =>
    obtain ⟨a, ys, rfl, sq, rs⟩ := t
    obtain ⟨bs, e, q⟩ := PostO.map q
    rw [hK]
    obtain rfl := rs.bls e
    exact ⟨a, bs, rfl, .inl sq, Post.sc q s (rsBl _)⟩
  | _ => exact q.elim
theorem cr_sum' (hc : X.calm = true) (hK : X.K = c.K) : CallR X (.builtin "sum") (rN1 c .sumL) := by
  refine CallR.weak (cr_sum hc) fun xs H Q h => ?_
  obtain ⟨x, rfl, G, d, s, t, q⟩ := h
  cases d with
  | lst l =>
    obtain ⟨a, ys, rfl, sq, rs⟩ := t
    obtain ⟨bs, e, q⟩ := PostO.map q
    rw [hK]
    obtain rfl := rs.ints e
    exact ⟨a, bs, rfl, .inl sq, Post.sc q s (rsInt _)⟩
  | _ => exact q.elim
theorem fold_min : ∀ (r : List Int) (x : Int), (r.foldl minI x ∈ x :: r) ∧ ∀ y ∈ x :: r, r.foldl minI x ≤ y
  | [], x => by simp
  | z :: r, x => by
    obtain ⟨h1, h2⟩ := fold_min r (minI x z)
    have hm : minI x z ≤ x ∧ minI x z ≤ z ∧ (minI x z = x ∨ minI x z = z) := by unfold minI; split <;> omega
    have h3 := h2 (minI x z) (List.mem_cons_self ..)
    simp only [List.foldl_cons]
    refine ⟨?_, fun y hy => ?_⟩
    · rcases List.mem_cons.mp h1 with e | e
      · rcases hm.2.2 with k | k <;> rw [e, k] <;> simp
      · simp [e]
    · rcases List.mem_cons.mp hy with rfl | hy
      · omega
      · rcases List.mem_cons.mp hy with rfl | hy
        · omega
        · exact h2 y (List.mem_cons_of_mem _ hy)
theorem fold_max : ∀ (r : List Int) (x : Int), (r.foldl maxI x ∈ x :: r) ∧ ∀ y ∈ x :: r, y ≤ r.foldl maxI x
  | [], x => by simp
  | z :: r, x => by
    obtain ⟨h1, h2⟩ := fold_max r (maxI x z)
    have hm : x ≤ maxI x z ∧ z ≤ maxI x z ∧ (maxI x z = x ∨ maxI x z = z) := by unfold maxI; split <;> omega
    have h3 := h2 (maxI x z) (List.mem_cons_self ..)
    simp only [List.foldl_cons]
    refine ⟨?_, fun y hy => ?_⟩
    · rcases List.mem_cons.mp h1 with e | e
      · rcases hm.2.2 with k | k <;> rw [e, k] <;> simp
      · simp [e]
    · rcases List.mem_cons.mp hy with rfl | hy
      · omega
      · rcases List.mem_cons.mp hy with rfl | hy
        · omega
        · exact h2 y (List.mem_cons_of_mem _ hy)
theorem cr_min' (hc : X.calm = true) (hK : X.K = c.K) : CallR X (.builtin "min") (rN1 c .minL) := by
  refine CallR.weak (cr_min hc) fun xs H Q h => ?_
  obtain ⟨x, rfl, G, d, s, t, q⟩ := h
  cases d with
  | lst l =>
    obtain ⟨a, ys, rfl, sq, rs⟩ := t
    simp only [p1Sem] at q
    split at q
    · rename_i x r e
      rw [hK]
      obtain rfl := rs.ints e
      refine ⟨a, x :: r, rfl, .inl sq, by simp, fun m hm hle => ?_⟩
      obtain ⟨f1, f2⟩ := fold_min r x
      have em : m = r.foldl minI x := by have := hle _ f1; have := f2 _ hm; omega
      subst em
      exact Post.sc q s (rsInt _)
    · exact q.elim
  | _ => exact q.elim
theorem cr_max' (hc : X.calm = true) (hK : X.K = c.K) : CallR X (.builtin "max") (rN1 c .maxL) := by
  refine CallR.weak (cr_max hc) fun xs H Q h => ?_
  obtain ⟨x, rfl, G, d, s, t, q⟩ := h
  cases d with
  | lst l =>
    obtain ⟨a, ys, rfl, sq, rs⟩ := t
    simp only [p1Sem] at q
    split at q
    · rename_i x r e
      rw [hK]
      obtain rfl := rs.ints e
      refine ⟨a, x :: r, rfl, .inl sq, by simp, fun m hm hle => ?_⟩
      obtain ⟨f1, f2⟩ := fold_max r x
      have em : m = r.foldl maxI x := by have := hle _ f1; have := f2 _ hm; omega
      subst em
      exact Post.sc q s (rsInt _)
    · exact q.elim
  | _ => exact q.elim
/-- the type of plain data -/
def tyD : D → Option String
  | .non => some "NoneType"
  | .bl _ => some "bool"
  | .int _ => some "int"
  | .str _ => some "str"
  | .tup _ => some "tuple"
  | .lst _ => some "list"
  | .dk _ => some "dict"
  | _ => none
theorem RT.ty {H G : Hp} (s : Sub G H) {d : D} {v : V} {T : String} (h : RT c H G d v) (e : tyD d = some T) : TyX c.K H v (.type T) := by
  cases d with
  | non => cases e; obtain rfl : v = .non := by simpa only [RT, RS] using h
           exact .base .non
  | bl b => cases e; obtain rfl := h.bl; exact .base (.bl _)
  | int b => cases e; obtain rfl := h.int; exact .base (.int _)
  | str b => cases e; obtain rfl := h.str; exact .base (.str _)
  | tup l =>
    cases e
    obtain ⟨a, xs, rfl, sq, rs⟩ := RT.tup c s h
    rcases sq with (q | ⟨o, q⟩) | ⟨o, its, n, hk, hc, _⟩
    · exact .base (.tup q)
    · exact .fTuple q
    · exact .kTuple hk hc
  | lst l =>
    cases e
    obtain ⟨a, xs, rfl, sq, rs⟩ := h
    rcases sq with q | ⟨o, q⟩
    · exact .base (.lst q)
    · exact .base (.frz q)
  | dk l =>
    cases e
    obtain ⟨a, xs, rfl, sq, rs⟩ := h
    rcases sq with q | ⟨o, q⟩
    · exact .base (.dK q)
    · exact .fDict q
  | dt l => cases e
  | scr l => cases e
  | obj _ _ => cases e
  | clo _ _ => cases e
  | kt _ => cases e
/-- the name of the class that isinstance asks for -/
def p1TyS : P1 → String
  | .isTup => "tuple"
  | .isInt => "int"
  | .isBool => "bool"
  | .isStr => "str"
  | .isList => "list"
  | _ => ""
theorem isInst_kit {p : P1} {d : D} {b : Bool} (h : isInst p d = some b) : ∃ T, tyD d = some T ∧ kitB T (p1TyS p) = some b := by
  cases p <;> cases d <;> simp [isInst] at h <;> subst h <;> exact ⟨_, rfl, by decide +kernel⟩
theorem ev_p1 {C : CallS} {p : P1} {a : ME} : ev C (.p1 p a) = fun e => (opd a (ev C a) e).bind fun a e => match a.res e with | some a => .opt (p1Sem p a) e | none => .bad := by
  funext e; rfl
theorem ev_p2 {C : CallS} {p : P2} {a b : ME} : ev C (.p2 p a b) = fun e => (opd a (ev C a) e).bind fun a e => (opd b (ev C b) e).bind fun b e => match a.res e, b.res e with | some a, some b => .opt (p2Sem p a b) e | _, _ => .bad := by
  funext e; rfl
/-- a rule for one operand gives the reading -/
theorem un_ok {C : CallS} {p : P1} {a : ME} {x e : Expr} {r : V → Hp → VK → Prop} (ha : PE X x (rdX c Ex (repP c) (opd a (ev C a))))
    (rule : PE X x (rdX c Ex (repP c) (opd a (ev C a))) → PE X e (fun σ H Q => rdX c Ex (repP c) (opd a (ev C a)) σ H fun v H1 => r v H1 Q)) (w : ∀ v H Q, rP1 c p v H Q → r v H Q) :
    PE X e (rdX c Ex (repO c) (ev C (.p1 p a))) := by
  rw [ev_p1]
  exact PE.weak (rule ha) fun σ H Q h => (seq1 h).imp fun v H1 => w v H1 Q
variable {M : Mo} {N : List Str} {sc : Scope} {top : Bool} {lvl : Nat}
theorem Ctx.gl (K : Ctx M c Ex N sc top lvl X) {x : Str} (h : gl sc x = true) : Gl X x := by
  have h := of_decide_eq_true h
  show X.env.scope.names.lookup x = _
  rw [K.sc]; exact h
theorem Ctx.free (K : Ctx M c Ex N sc top lvl X) {x : Str} (h : x ∈ bltNames) : X.mg x = none := by rw [K.mg]; exact K.bl x h
theorem Ctx.hK (K : Ctx M c Ex N sc top lvl X) : X.K = c.K := K.k.trans K.ck.symm
theorem Ctx.hu (K : Ctx M c Ex N sc top lvl X) : X.A.units + 64 < cLine := K.room.units
/-- f(x), f a built-in function or class by its name -/
theorem blt1 (K : Ctx M c Ex N sc top lvl X) {C : CallS} {p : P1} {a : ME} {f : Str} {x : Expr} {id : String} {p0 pos : Pos} (hg : gl sc f = true) (hf : f ∈ bltNames) (hn : f ≠ "__name__") (hd : (f == ("__debug__" : Str)) = false)
    (hb : bootBuiltins f = some (.builtin id)) (hc : CallR X (.builtin id) (rN1 c p)) (ns : noStar x = true) (ha : PE X x (rdX c Ex (repP c) (opd a (ev C a)))) : PE X (.Call (.Name f p0) [x] [] pos) (rdX c Ex (repO c) (ev C (.p1 p a))) := by
  refine un_ok (r := rP1 c p) ha (fun ha => ?_) fun _ _ _ h => h
  refine PE.weak (pe_callB hc (K.gl hg) (K.free hf) hb (pa_cons ha pa_nil (hs := star_cons ns)) (hn := hn) (hdb := hd) (he := star_cons ns) (hpl := rfl)) fun σ H Q h => ?_
  exact h.imp fun v H1 q => ⟨v, rfl, q⟩
theorem blt1T (K : Ctx M c Ex N sc top lvl X) {C : CallS} {p : P1} {a : ME} {f : Str} {x : Expr} {id : String} {p0 pos : Pos} (hg : gl sc f = true) (hf : f ∈ bltNames) (hn : f ≠ "__name__") (hd : (f == ("__debug__" : Str)) = false)
    (hb : bootBuiltins f = some (.type id)) (hc : CallR X (.type id) (rN1 c p)) (ns : noStar x = true) (ha : PE X x (rdX c Ex (repP c) (opd a (ev C a)))) : PE X (.Call (.Name f p0) [x] [] pos) (rdX c Ex (repO c) (ev C (.p1 p a))) := by
  refine un_ok (r := rP1 c p) ha (fun ha => ?_) fun _ _ _ h => h
  refine PE.weak (pe_callTy hc (K.gl hg) (K.free hf) hb (pa_cons ha pa_nil (hs := star_cons ns)) (hn := hn) (hdb := hd) (he := star_cons ns) (hpl := rfl)) fun σ H Q h => ?_
  exact h.imp fun v H1 q => ⟨v, rfl, q⟩
theorem isi1 (K : Ctx M c Ex N sc top lvl X) {C : CallS} {p : P1} {a : ME} {T : Str} {x : Expr} {p0 p2 pos : Pos} (hg : gl sc "isinstance" = true) (hT : gl sc T = true) (hp : p1Ty p = some T) (ns : noStar x = true)
    (ha : PE X x (rdX c Ex (repP c) (opd a (ev C a)))) : PE X (.Call (.Name "isinstance" p0) [x, .Name T p2] [] pos) (rdX c Ex (repO c) (ev C (.p1 p a))) := by
  have hTn : T ∈ bltNames ∧ T ≠ "__name__" ∧ (T == ("__debug__" : Str)) = false ∧ bootBuiltins T = some (.type (p1TyS p)) ∧ ∀ d, p1Sem p d = (isInst p d).map fun b => .s (.bl b) := by
    cases p <;> simp [p1Ty] at hp <;> subst hp <;> exact ⟨by decide +kernel, by decide +kernel, by decide +kernel, by decide +kernel, fun _ => rfl⟩
  obtain ⟨h1, h2, h3, h4, h5⟩ := hTn
  refine un_ok (r := rP1 c p) ha (fun ha => ?_) fun _ _ _ h => h
  have pT : PE X (.Name T p2) (tC (.ty (p1TyS p))) := pe_bltn (K.gl hT) (K.free h1) h4 rfl h2 h3
  refine PE.weak (pe_callB call_isi (K.gl hg) (K.free (by decide +kernel)) PyProof.Rows.boot_isinstance (pa_cons ha (pa_cons pT pa_nil) (hs := star_cons ns)) (he := star_cons ns) (hpl := rfl)) fun σ H Q h => ?_
  refine h.imp fun v H1 q => ?_
  obtain ⟨G, d, s, t, q⟩ := q
  rw [h5] at q
  obtain ⟨b, e, q⟩ := PostO.map q
  obtain ⟨Ty, e1, e2⟩ := isInst_kit e
  exact ⟨v, _, .type Ty, _, b, rfl, .ty _, by rw [K.hK]; exact t.ty s e1, kit_ty e2, Post.sc q s (rsBl _)⟩
theorem rg_small {j : Int} (h : j ≤ 1000000 ∧ -1000000 ≤ j) : RgOk 0 j := ⟨by omega, by omega, by omega, by omega, by omega⟩
theorem rgV_rs {G : Hp} (j : Int) : RSL c G ((List.range j.toNat).map fun (k : Nat) => D.int (k : Nat)) (rgV 0 j) := by
  unfold rgV
  rw [Int.sub_zero]
  generalize List.range j.toNat = l
  induction l with
  | nil => simp [RSL]
  | cons k l ih =>
    simp only [List.map_cons, RSL]
    exact ⟨_, _, rfl, by simp [RS], ih⟩
/-- tuple(range(x)), len(set(x)) -/
theorem ok_nest (K : Ctx M c Ex N sc top lvl X) {C : CallS} {p : P1} {a : ME} {f : Str} {r : Expr → Bool} (hr : ∀ y, r y = true → PE X y (rdX c Ex (repP c) (opd a (ev C a))) ∧ noStar y = true) {x : Expr} {p0 pos : Pos} (h : mNest p sc r f x = true) :
    PE X (.Call (.Name f p0) [x] [] pos) (rdX c Ex (repO c) (ev C (.p1 p a))) := by
  unfold mNest at h
  split at h
  · rename_i g p1 y pos2
    simp only [Bool.and_eq_true, decide_eq_true_eq] at h
    obtain ⟨⟨⟨hf, hg⟩, hp⟩, h⟩ := h
    obtain ⟨ha, ns⟩ := hr _ h
    cases p <;> simp only [p1Nest, reduceCtorEq, Option.some.injEq, Prod.mk.injEq] at hp <;> obtain ⟨rfl, rfl⟩ := hp
    · refine un_ok (r := fun v H Q => ∃ n, v = .int n ∧ RgOk 0 n ∧ ∀ q, H q = none → Q (.ref q) (upd H q (.tup (rgV 0 n)))) ha (fun ha => PE.weak (pe_tupRg K.calm (K.gl hf) (K.free (by decide +kernel)) (prg_1 (K.gl hg) (K.free (by decide +kernel)) ha (star_cons ns))) fun σ H Q q => q) fun v H Q h => ?_
      obtain ⟨G, d, s, t, q⟩ := h
      cases d with
      | int j =>
        obtain rfl := t.int
        obtain ⟨hj, q⟩ := PostO.ite (c := c) q
        exact ⟨j, rfl, rg_small hj, fun p hp => Post.tup q s (rgV_rs j) hp⟩
      | _ => exact q.elim
    · refine un_ok (r := fun v H Q => ∃ (l : Addr) (ns : List Int), v = .ref l ∧ SqL X.K H l (ns.map V.int) ∧ ns.length ≤ 4000 ∧ Q (.int (ddN ns : Nat)) H) ha (fun ha => PE.weak (pe_setN (K.gl hf) (K.free (by decide +kernel)) (K.gl hg) (K.free (by decide +kernel)) ha K.calm (star_cons ns)) fun σ H Q q => q) fun v H Q h => ?_
      obtain ⟨G, d, s, t, q⟩ := h
      cases d with
      | lst l =>
        obtain ⟨a, ys, rfl, sq, rs⟩ := t
        simp only [p1Sem] at q
        split at q
        · rename_i ns e
          obtain ⟨hn, q⟩ := PostO.ite (c := c) q
          obtain rfl := rs.ints e
          exact ⟨a, ns, rfl, .inl sq, hn, Post.sc q s (rsInt _)⟩
        · exact q.elim
      | _ => exact q.elim
  · cases h
theorem ok_m1 (K : Ctx M c Ex N sc top lvl X) {C : CallS} {p : P1} {a : ME} {r : Expr → Bool} (hr : ∀ y, r y = true → PE X y (rdX c Ex (repP c) (opd a (ev C a))) ∧ noStar y = true) {x : Expr} (h : m1 p sc r x = true) :
    PE X x (rdX c Ex (repO c) (ev C (.p1 p a))) := by
  unfold m1 at h
  split at h
  · -- minus
    rename_i op y pos
    split at h
    · obtain ⟨ha, ns⟩ := hr _ h
      refine un_ok (r := rU fun i => .int (-i)) ha (fun ha => pe_un un_neg ha) fun v H Q h => ?_
      obtain ⟨G, d, s, t, q⟩ := h
      cases d with
      | int i => obtain rfl := t.int; exact ⟨i, rfl, Post.sc q s (rsInt _)⟩
      | _ => exact q.elim
    · cases h
  · rename_i y op z pos
    split at h
    · obtain ⟨ha, ns⟩ := hr _ h
      refine un_ok (r := fun x H Q => Q (.bl (decide (x = .non))) H) ha (fun ha => pe_cmp (pc_isN ha) rfl) fun v H Q h => ?_
      obtain ⟨G, d, s, t, q⟩ := h
      have q' := Post.sc q s (rsBl _)
      rw [t.isNon]; exact q'
    · obtain ⟨ha, ns⟩ := hr _ h
      refine un_ok (r := fun x H Q => Q (.bl (!decide (x = .non))) H) ha (fun ha => pe_cmp (pc_notN ha) rfl) fun v H Q h => ?_
      obtain ⟨G, d, s, t, q⟩ := h
      have q' := Post.sc q s (rsBl _)
      rw [t.isNon]
      exact q'
    · cases h
  · rename_i f p0 y pos
    split at h
    · exact ok_nest K hr h
    simp only [Bool.and_eq_true, decide_eq_true_eq] at h
    obtain ⟨⟨hg, hf⟩, h⟩ := h
    obtain ⟨ha, ns⟩ := hr _ h
    cases p <;> simp [p1Name] at hf <;> subst hf
    · exact blt1 K hg (by decide +kernel) (by decide +kernel) (by decide +kernel) PySem.boot_len (cr_len' K.hK) ns ha
    · exact blt1T K hg (by decide +kernel) (by decide +kernel) (by decide +kernel) (by decide +kernel) (cr_list' K.calm K.hK) ns ha
    · exact blt1T K hg (by decide +kernel) (by decide +kernel) (by decide +kernel) (by decide +kernel) (cr_tuple' K.hK) ns ha
    · exact blt1T K hg (by decide +kernel) (by decide +kernel) (by decide +kernel) (by decide +kernel) cr_str' ns ha
    · exact blt1T K hg (by decide +kernel) (by decide +kernel) (by decide +kernel) (by decide +kernel) cr_int' ns ha
    · exact blt1 K hg (by decide +kernel) (by decide +kernel) (by decide +kernel) (by decide +kernel) (cr_all' K.calm K.hK) ns ha
    · exact blt1 K hg (by decide +kernel) (by decide +kernel) (by decide +kernel) (by decide +kernel) (cr_any' K.calm K.hK) ns ha
    · exact blt1 K hg (by decide +kernel) (by decide +kernel) (by decide +kernel) (by decide +kernel) (cr_min' K.calm K.hK) ns ha
    · exact blt1 K hg (by decide +kernel) (by decide +kernel) (by decide +kernel) (by decide +kernel) (cr_max' K.calm K.hK) ns ha
    · exact blt1 K hg (by decide +kernel) (by decide +kernel) (by decide +kernel) (by decide +kernel) (cr_sum' K.calm K.hK) ns ha
    · exact blt1 K hg (by decide +kernel) (by decide +kernel) (by decide +kernel) (by decide +kernel) (cr_sorted' K.hK K.hu) ns ha
    · exact blt1T K hg (by decide +kernel) (by decide +kernel) (by decide +kernel) (by decide +kernel) (cr_tupX K.hK) ns ha
  · rename_i f p0 y T p2 pos
    simp only [Bool.and_eq_true, decide_eq_true_eq] at h
    obtain ⟨⟨⟨⟨hg, hT⟩, hf⟩, hp⟩, h⟩ := h
    subst hf
    obtain ⟨ha, ns⟩ := hr _ h
    exact isi1 K hg hT hp ns ha
  · cases h
end
end MW
namespace MW
open L2 PyProof.Rows PySem.Spec PySem
section
variable {c : RC} {Ex : XK} {X : Cx}
/-! ### two operands -/
/-- list + list, both tracked or known -/
theorem op_catR : OpR X (binaryOp .Add) (fun x y H Q => ∃ l b xs zs, x = .ref l ∧ y = .ref b ∧ Rd H l (.lst xs) ∧ Rd H b (.lst zs) ∧ xs.length + zs.length ≤ sizeLine ∧ ∀ p, H p = none → Q (.ref p) (upd H p (.lst (xs ++ zs)))) := by
  intro pins s σ H x y v u Q I rx ry h
  obtain ⟨l, b, xs, zs, rfl, rfl, hH, hB, hz, q⟩ := h
  cases rx
  cases ry
  obtain ⟨z, its, n, r, e⟩ := hH.ok I.hok
  obtain ⟨z2, its2, n2, r2, e2⟩ := hB.ok I.hok
  have hl := r.length
  have hl2 := r2.length
  refine PySem.P.add_list e e2 ?_ (by rw [List.size_toArray, List.size_toArray]; omega)
  have ea : its.toArray ++ its2.toArray = (its ++ its2).toArray := by simp
  rw [ea]
  exact ⟨.ref _, _, I.lnew (t' := s.toks) (r.append r2) (by rw [List.length_append]; omega), rfl, q _ I.fresh⟩
/-- tuple + tuple: where one is empty, the other one itself -/
theorem op_catT : OpR X (binaryOp .Add) (fun x y H Q => ∃ a b xs ys, x = .ref a ∧ y = .ref b ∧ SqT X.K H a xs ∧ SqT X.K H b ys ∧ xs.length + ys.length ≤ sizeLine ∧ (xs = [] → Q (.ref b) H) ∧ (ys = [] → Q (.ref a) H) ∧ ∀ p, H p = none → Q (.ref p) (upd H p (.tup (xs ++ ys)))) := by
  intro pins s σ H x y v u Q I rx ry h
  obtain ⟨a, b, xs, ys, rfl, rfl, hA, hB, hz, q0, q1, q2⟩ := h
  cases rx
  cases ry
  obtain ⟨us, r, ⟨⟨cls, dd, data, sl⟩, ho, hc, n, hd⟩, _⟩ := I.tuple hA
  obtain ⟨ws, r2, ⟨⟨cls2, dd2, data2, sl2⟩, ho2, hc2, n2, hd2⟩, _⟩ := I.tuple hB
  simp only at hc hd hc2 hd2
  subst hc hd hc2 hd2
  have hl := r.length
  have hl2 := r2.length
  by_cases hu : us = []
  · refine concat_meets ⟨_, ho, rfl⟩ ⟨_, ho2, rfl⟩ noFill_tuple_add seq_tuple_add PySem.F.slot_tuple_add PySem.F.entry_tuple_add (PySem.F.args_tuple_add_2 _ _)
      (tuple_addW0 a b us.toArray ws.toArray n n2 dd dd2 sl sl2 (by simp [hu])) ⟨ho, ho2, .ref b, H, I, rfl, q0 ?_⟩
    subst hu
    exact List.eq_nil_of_length_eq_zero hl
  by_cases hw : ws = []
  · refine concat_meets ⟨_, ho, rfl⟩ ⟨_, ho2, rfl⟩ noFill_tuple_add seq_tuple_add PySem.F.slot_tuple_add PySem.F.entry_tuple_add (PySem.F.args_tuple_add_2 _ _)
      (tuple_addW1 a b us.toArray ws.toArray n n2 dd dd2 sl sl2 (by simpa using hu) (by simp [hw])) ⟨ho, ho2, .ref a, H, I, rfl, q1 ?_⟩
    subst hw
    exact List.eq_nil_of_length_eq_zero hl2
  refine concat_meets ⟨_, ho, rfl⟩ ⟨_, ho2, rfl⟩ noFill_tuple_add seq_tuple_add PySem.F.slot_tuple_add PySem.F.entry_tuple_add (PySem.F.args_tuple_add_2 _ _)
    (tuple_addW2 a b us.toArray ws.toArray n n2 dd dd2 sl sl2 (by simpa using hu) (by simpa using hw) (by rw [List.size_toArray, List.size_toArray]; omega)) ⟨ho, ho2, ?_⟩
  have ea : us.toArray ++ ws.toArray = (us ++ ws).toArray := by simp
  rw [ea]
  refine ⟨.ref _, _, I.laid (t' := s.toks) (o := .tup (xs ++ ys)) (fun _ _ q => Heap.get?_push_of_some _ q) (Nat.le_refl _) ⟨by rw [List.length_append]; omega, us ++ ws, r.append r2, _, Heap.get?_push_size _ rfl, rfl, 0, rfl⟩, rfl, q2 _ I.fresh⟩
theorem op_add' (hK : X.K = c.K) : OpR X (binaryOp .Add) (rP2 c .add) := by
  refine OpR.weak (((op_add.or op_add_str).or op_catR).or op_catT) fun x y H Q h => ?_
  obtain ⟨G, d, d', s, t, t', q⟩ := h
  cases d with
  | int i =>
    cases d' with
    | int j => obtain rfl := t.int; obtain rfl := t'.int; exact .inl (.inl (.inl ⟨i, j, rfl, rfl, Post.sc q s (rsInt _)⟩))
    | _ => exact q.elim
  | tup l =>
    cases d' with
    | tup l' =>
      have t1 : RS c G (.tup l) x := t
      have t2 : RS c G (.tup l') y := t'
      obtain ⟨a, xs, rfl, sq, rs⟩ := RT.tup c s t
      obtain ⟨a', xs', rfl, sq', rs'⟩ := RT.tup c s t'
      obtain ⟨hz, q⟩ := PostO.ite (c := c) q
      refine .inr ⟨a, a', xs, xs', rfl, rfl, by rw [hK]; exact sq, by rw [hK]; exact sq', by rw [rs.len, rs'.len]; exact hz, fun e => ?_, fun e => ?_, fun p hp => Post.tup q s (rs.app rs') hp⟩
      · subst e
        have e2 : l = [] := List.eq_nil_of_length_eq_zero rs.len.symm
        subst e2
        exact Post.sc q s t2
      · subst e
        have e2 : l' = [] := List.eq_nil_of_length_eq_zero rs'.len.symm
        subst e2
        rw [List.append_nil] at q
        exact Post.sc q s t1
    | _ => exact q.elim
  | str i =>
    cases d' with
    | str j =>
      obtain rfl := t.str; obtain rfl := t'.str
      obtain ⟨hz, q⟩ := PostO.ite (c := c) q
      exact .inl (.inl (.inr ⟨i, j, rfl, rfl, hz, Post.sc q s (rsStr _)⟩))
    | _ => exact q.elim
  | lst l =>
    cases d' with
    | lst l' =>
      obtain ⟨a, xs, rfl, sq, rs⟩ := t
      obtain ⟨a', xs', rfl, sq', rs'⟩ := t'
      obtain ⟨hz, q⟩ := PostO.ite (c := c) q
      exact .inl (.inr ⟨a, a', xs, xs', rfl, rfl, sq, sq', by rw [rs.len, rs'.len]; exact hz, fun p hp => Post.lst q s (rs.app rs') hp⟩)
    | _ => exact q.elim
  | _ => exact q.elim
theorem op_i2 {f : Value → Value → Sem Value} {Cn : Int → Int → Prop} {g : Int → Int → V} {p : P2} (hr : OpR X f (rI Cn g))
    (sem : ∀ d d' od, p2Sem p d d' = some od → ∃ i j, d = .int i ∧ d' = .int j ∧ Cn i j ∧ ∃ r, od = .s r ∧ ∀ G : Hp, RS c G r (g i j)) : OpR X f (rP2 c p) := by
  refine OpR.weak hr fun x y H Q h => ?_
  obtain ⟨G, d, d', s, t, t', q⟩ := h
  cases e : p2Sem p d d' with
  | none => rw [e] at q; exact q.elim
  | some od =>
    rw [e] at q
    obtain ⟨i, j, rfl, rfl, hc, r, rfl, hr⟩ := sem d d' od e
    obtain rfl := t.int; obtain rfl := t'.int
    exact ⟨i, j, rfl, rfl, hc, Post.sc q s (hr G)⟩
theorem op_i20 {f : Value → Value → Sem Value} {g : Int → Int → V} {p : P2} (hr : OpR X f (rI0 g))
    (sem : ∀ d d' od, p2Sem p d d' = some od → ∃ i j, d = .int i ∧ d' = .int j ∧ ∃ r, od = .s r ∧ ∀ G : Hp, RS c G r (g i j)) : OpR X f (rP2 c p) := by
  refine OpR.weak hr fun x y H Q h => ?_
  obtain ⟨G, d, d', s, t, t', q⟩ := h
  cases e : p2Sem p d d' with
  | none => rw [e] at q; exact q.elim
  | some od =>
    rw [e] at q
    obtain ⟨i, j, rfl, rfl, r, rfl, hr⟩ := sem d d' od e
    obtain rfl := t.int; obtain rfl := t'.int
    exact ⟨i, j, rfl, rfl, Post.sc q s (hr G)⟩
theorem op_sub' : OpR X (binaryOp .Sub) (rP2 c .sub) := op_i20 op_sub fun d d' od e => by
  simp only [p2Sem] at e
  split at e
  · cases e; exact ⟨_, _, rfl, rfl, _, rfl, fun G => rsInt _⟩
  · cases e
theorem op_band' : OpR X (binaryOp .BitAnd) (rP2 c .band) := op_i20 op_and fun d d' od e => by
  simp only [p2Sem] at e
  split at e
  · cases e; exact ⟨_, _, rfl, rfl, _, rfl, fun G => rsInt _⟩
  · cases e
theorem op_mulA : OpR X (binaryOp .Mult) (rI (fun i j => CMul i j ∨ CMulW i j) fun i j => .int (i * j)) := OpR.weak (op_mul.or op_mulW) fun x y H Q h => by
  obtain ⟨i, j, e1, e2, hc | hc, q⟩ := h
  · exact .inl ⟨i, j, e1, e2, hc, q⟩
  · exact .inr ⟨i, j, e1, e2, hc, q⟩
theorem op_mul' : OpR X (binaryOp .Mult) (rP2 c .mul) := op_i2 op_mulA fun d d' od e => by
  simp only [p2Sem] at e
  split at e
  · split at e
    · rename_i h; cases e; exact ⟨_, _, rfl, rfl, h, _, rfl, fun G => rsInt _⟩
    · cases e
  · cases e
theorem op_mod' : OpR X (binaryOp .Mod) (rP2 c .mod) := op_i2 op_mod fun d d' od e => by
  simp only [p2Sem] at e
  split at e
  · split at e
    · rename_i h; cases e; exact ⟨_, _, rfl, rfl, h, _, rfl, fun G => rsInt _⟩
    · cases e
  · cases e
theorem op_fdiv' : OpR X (binaryOp .FloorDiv) (rP2 c .fdiv) := op_i2 op_fdiv fun d d' od e => by
  simp only [p2Sem] at e
  split at e
  · split at e
    · rename_i h; cases e; exact ⟨_, _, rfl, rfl, h, _, rfl, fun G => rsInt _⟩
    · cases e
  · cases e
theorem op_pow' : OpR X (binaryOp .Pow) (rP2 c .pow) := op_i2 op_pow fun d d' od e => by
  simp only [p2Sem] at e
  split at e
  · split at e
    · rename_i h; cases e; exact ⟨_, _, rfl, rfl, h, _, rfl, fun G => rsInt _⟩
    · cases e
  · cases e
theorem op_shl' : OpR X (binaryOp .LShift) (rP2 c .shl) := op_i2 op_shl fun d d' od e => by
  simp only [p2Sem] at e
  split at e
  · split at e
    · rename_i h; cases e; exact ⟨_, _, rfl, rfl, h, _, rfl, fun G => rsInt _⟩
    · cases e
  · cases e
theorem op_shr' : OpR X (binaryOp .RShift) (rP2 c .shr) := op_i2 op_shr fun d d' od e => by
  simp only [p2Sem] at e
  split at e
  · split at e
    · rename_i h; cases e; exact ⟨_, _, rfl, rfl, h, _, rfl, fun G => rsInt _⟩
    · cases e
  · cases e
theorem cmpI_some {a b : D} {f : Int → Int → Bool} {od : OD} (e : cmpI a b f = some od) : ∃ i j, a = .int i ∧ b = .int j ∧ od = .s (.bl (f i j)) := by
  unfold cmpI at e
  split at e
  · cases e; exact ⟨_, _, rfl, rfl, rfl⟩
  · cases e
theorem op_lt' : OpR X (compareOp .Lt) (rP2 c .lt) := op_i20 op_lt fun d d' od e => by
  obtain ⟨i, j, h1, h2, h3⟩ := cmpI_some (show cmpI d d' _ = some od from e)
  exact ⟨i, j, h1, h2, _, h3, fun G => rsBl _⟩
theorem op_le' : OpR X (compareOp .LtE) (rP2 c .le) := op_i20 op_le fun d d' od e => by
  obtain ⟨i, j, h1, h2, h3⟩ := cmpI_some (show cmpI d d' _ = some od from e)
  exact ⟨i, j, h1, h2, _, h3, fun G => rsBl _⟩
theorem op_gt' : OpR X (compareOp .Gt) (rP2 c .gt) := op_i20 op_gt fun d d' od e => by
  obtain ⟨i, j, h1, h2, h3⟩ := cmpI_some (show cmpI d d' _ = some od from e)
  exact ⟨i, j, h1, h2, _, h3, fun G => rsBl _⟩
theorem op_ge' : OpR X (compareOp .GtE) (rP2 c .ge) := op_i20 op_ge fun d d' od e => by
  obtain ⟨i, j, h1, h2, h3⟩ := cmpI_some (show cmpI d d' _ = some od from e)
  exact ⟨i, j, h1, h2, _, h3, fun G => rsBl _⟩
/-! == of data -/
theorem RT.dp {K : PySem.W.Frag} {H G : Hp} (hK : c.K = K) (s : Sub G H) {d : D} {v : V} {p : PyData} (h : RT c H G d v) (e : toPy d = some p) : Dp K H v p := by
  cases d with
  | lst l =>
    obtain ⟨a, xs, rfl, q, r⟩ := h
    simp only [toPy, Option.map_eq_some_iff] at e
    obtain ⟨ds, e1, rfl⟩ := e
    exact .lst (.inl q) (RSL.dp hK s r e1)
  | scr l => simp [toPy] at e
  | dk l => simp [toPy] at e
  | dt l => simp [toPy] at e
  | obj k l => simp [toPy] at e
  | clo k l => simp [toPy] at e
  | kt l => simp [toPy] at e
  | non => exact RS.dp hK s h e
  | bl b => exact RS.dp hK s h e
  | int b => exact RS.dp hK s h e
  | str b => exact RS.dp hK s h e
  | tup b => exact RS.dp hK s h e
theorem eqP_some {a b : D} {k : Bool} (h : eqP a b = some k) : ∃ x y, toPy a = some x ∧ toPy b = some y ∧ SeqAt.shaped x = true ∧ SeqAt.shaped y = true ∧ PyData.eqv x y = k := by
  unfold eqP at h
  split at h
  · rename_i x y e1 e2
    split at h
    · rename_i hs
      simp only [Bool.and_eq_true] at hs
      cases h
      exact ⟨x, y, e1, e2, hs.1, hs.2, rfl⟩
    · cases h
  · cases h
theorem eqD_some {H G : Hp} {d d' : D} {k : Bool} {x y : V} (t : RT c H G d x) (t' : RT c H G d' y) (h : eqD d d' = some k) : (scal x y = true ∧ decide (x = y) = k) ∨ eqP d d' = some k := by
  unfold eqD at h
  split at h
  · obtain rfl := t.str
    obtain rfl := t'.str
    cases h
    exact .inl ⟨rfl, by simp⟩
  · obtain rfl := t.int
    obtain rfl := t'.int
    cases h
    exact .inl ⟨rfl, by simp⟩
  · exact .inr h
theorem op_eq' (hu : X.A.units + 64 < cLine) (hK : X.K = c.K) : OpR X (compareOp .Eq) (rP2 c .eq) := by
  refine OpR.weak (op_eq.or (op_eqD hu)) fun x y H Q h => ?_
  obtain ⟨G, d, d', s, t, t', q⟩ := h
  obtain ⟨k, e, q⟩ := PostO.map (c := c) (show PostO c H G ((eqD d d').map _) Q from q)
  rcases eqD_some t t' e with ⟨h1, rfl⟩ | e
  · exact .inl ⟨h1, Post.sc q s (rsBl _)⟩
  · obtain ⟨a, b, e1, e2, h1, h2, rfl⟩ := eqP_some e
    exact .inr ⟨a, b, t.dp hK.symm s e1, t'.dp hK.symm s e2, h1, h2, Post.sc q s (rsBl _)⟩
theorem op_ne' (hu : X.A.units + 64 < cLine) (hK : X.K = c.K) : OpR X (compareOp .NotEq) (rP2 c .ne) := by
  refine OpR.weak (op_ne.or (op_neD hu)) fun x y H Q h => ?_
  obtain ⟨G, d, d', s, t, t', q⟩ := h
  obtain ⟨k, e, q⟩ := PostO.map (c := c) (show PostO c H G ((eqD d d').map _) Q from q)
  rcases eqD_some t t' e with ⟨h1, rfl⟩ | e
  · exact .inl ⟨h1, Post.sc q s (rsBl _)⟩
  · obtain ⟨a, b, e1, e2, h1, h2, rfl⟩ := eqP_some e
    exact .inr ⟨a, b, t.dp hK.symm s e1, t'.dp hK.symm s e2, h1, h2, Post.sc q s (rsBl _)⟩
/-! in -/
theorem flV_rt {H G : Hp} {d : D} {v x : V} (h : RT c H G d v) (e : flV d = some x) : x = v ∧ flatV v = true := by
  cases d <;> simp only [flV, Option.some.injEq, reduceCtorEq] at e <;> subst e
  · obtain rfl : v = .non := by simpa only [RT, RS] using h
    exact ⟨rfl, rfl⟩
  · obtain rfl := h.bl; exact ⟨rfl, rfl⟩
  · obtain rfl := h.int; exact ⟨rfl, rfl⟩
  · obtain rfl := h.str; exact ⟨rfl, rfl⟩
theorem flVs_rs {G : Hp} : ∀ {l : List D} {xs ys : List V}, RSL c G l xs → flVs l = some ys → ys = xs ∧ xs.all flatV = true
  | [], xs, ys, h, e => by simp only [RSL] at h; simp only [flVs, Option.some.injEq] at e; subst h; subst e; exact ⟨rfl, rfl⟩
  | d :: l, xs, ys, h, e => by
    simp only [RSL] at h
    obtain ⟨x, r, rfl, p, q⟩ := h
    simp only [flVs] at e
    split at e
    · rename_i y zs e1 e2
      cases e
      obtain ⟨rfl, h2⟩ := flVs_rs q e2
      have p' : RT c G G d x := by cases d <;> first | exact p | (simp [flV] at e1)
      obtain ⟨rfl, h1⟩ := flV_rt p' e1
      exact ⟨rfl, by simp [h1, h2]⟩
    · cases e
/-- what is walked or asked: a list or a tuple -/
theorem RT.seq {H G : Hp} (s : Sub G H) {d : D} {v : V} {l : List D} (h : RT c H G d v) (e : isq d = some l) : ∃ a xs, v = .ref a ∧ (SqL c.K H a xs ∨ SqT c.K H a xs) ∧ RSL c G l xs := by
  cases d <;> simp only [isq, Option.some.injEq, reduceCtorEq] at e <;> subst e
  · obtain ⟨a, xs, rfl, q, r⟩ := RT.tup c s h
    exact ⟨a, xs, rfl, .inr q, r⟩
  · obtain ⟨a, xs, rfl, q, r⟩ := h
    exact ⟨a, xs, rfl, .inl (.inl q), r⟩
  · obtain ⟨a, xs, rfl, q, r⟩ := h
    exact ⟨a, xs, rfl, .inl q, r⟩
  · rename_i ks
    obtain ⟨a, rfl, q1, q2⟩ := RS.kt (c := c) s h
    exact ⟨a, _, rfl, .inr (SqT.of q2), RSL_key ks⟩
theorem inD_some {x : D} {l : List D} {k : Bool} (h : inD x l = some k) : ∃ v vs, flV x = some v ∧ flVs l = some vs ∧ inV v vs = k := by
  unfold inD at h
  split at h
  · rename_i v vs e1 e2; cases h; exact ⟨v, vs, e1, e2, rfl⟩
  · cases h
/-- what a dict holds at a key -/
theorem RSK.val {G : Hp} : ∀ {l : List (Key × D)} {xs : List (Key × V)} (k : Key), RSK c G l xs → (valO l k = none ∧ valV xs k = none) ∨ ∃ d x, valO l k = some d ∧ valV xs k = some x ∧ RS c G d x
  | [], xs, k, h => by simp only [RSK] at h; subst h; exact .inl ⟨rfl, rfl⟩
  | (j, d) :: l, xs, k, h => by
    simp only [RSK] at h
    obtain ⟨x, r, rfl, p, q⟩ := h
    by_cases e : j = k
    · subst e
      exact .inr ⟨d, x, by simp [valO], by simp [valV], p⟩
    · have e1 : valO ((j, d) :: l) k = valO l k := by simp [valO, List.find?_cons, e]
      have e2 : valV ((j, x) :: r) k = valV r k := by simp [valV, List.find?_cons, e]
      rw [e1, e2]
      exact RSK.val k q
theorem RST.val {G : Hp} : ∀ {l : List (List Key × D)} {xs : List (List Key × V)} (k : List Key), RST c G l xs → (valO l k = none ∧ valV xs k = none) ∨ ∃ d x, valO l k = some d ∧ valV xs k = some x ∧ RS c G d x
  | [], xs, k, h => by simp only [RST] at h; subst h; exact .inl ⟨rfl, rfl⟩
  | (j, d) :: l, xs, k, h => by
    simp only [RST] at h
    obtain ⟨x, r, rfl, p, q⟩ := h
    by_cases e : j = k
    · subst e
      exact .inr ⟨d, x, by simp [valO], by simp [valV], p⟩
    · have e1 : valO ((j, d) :: l) k = valO l k := by simp [valO, List.find?_cons, e]
      have e2 : valV ((j, x) :: r) k = valV r k := by simp [valV, List.find?_cons, e]
      rw [e1, e2]
      exact RST.val k q
theorem keyD_rt {H G : Hp} {d : D} {v : V} {k : Key} (h : RT c H G d v) (e : keyD d = some k) : v = kV k := by
  cases d <;> simp only [keyD, Option.some.injEq, reduceCtorEq] at e <;> subst e
  · exact h.int
  · exact h.str
theorem keyT_rt {H G : Hp} (s : Sub G H) {d : D} {v : V} {k : List Key} (h : RT c H G d v) (e : keyT d = some k) : ∃ b, v = .ref b ∧ H b = some (.tup (k.map kV)) := by
  cases d <;> simp only [keyT, Option.some.injEq, reduceCtorEq] at e <;> subst e
  obtain ⟨a, rfl, q1, q2⟩ := RS.kt (c := c) s h
  exact ⟨a, rfl, q2⟩
theorem op_in_dict (hu : X.A.units + 64 < cLine) : OpR X (compareOp .In) (fun x y H Q => ∃ a o, y = .ref a ∧ DGet H a x o ∧ Q (.bl o.isSome) H) := by
  intro pins s σ H x y v u Q I rx ry q
  obtain ⟨a, o, rfl, g, q⟩ := q
  cases ry
  exact d_in (by omega) I g rx fun s3 I3 => ⟨.bl o.isSome, H, I3, rfl, q⟩
theorem op_notin_dict (hu : X.A.units + 64 < cLine) : OpR X (compareOp .NotIn) (fun x y H Q => ∃ a o, y = .ref a ∧ DGet H a x o ∧ Q (.bl (!o.isSome)) H) := by
  intro pins s σ H x y v u Q I rx ry q
  obtain ⟨a, o, rfl, g, q⟩ := q
  cases ry
  exact d_notIn (by omega) I g rx fun s3 I3 => ⟨.bl (!o.isSome), H, I3, rfl, q⟩
theorem ix_dict (hu : X.A.units + 64 < cLine) : IxR X (fun x y H Q => ∃ a w, x = .ref a ∧ DGet H a y (some w) ∧ Q w H) := by
  intro value slice pins s σ H x y v u Q I rx ry q hs
  obtain ⟨a, w, rfl, g, q⟩ := q
  cases rx
  exact tail_any (dict_typeIs I g) PySem.F.slot_dict_getitem.lookup (d_getItem (by omega) I g ry fun w' s' I' r' => ⟨w, H, I', r', q⟩) hs
theorem signIn_some {x z : Str} {k : Bool} (h : signIn x z = some k) : ∃ c, x = ⟨#[c]⟩ ∧ decide (c ∈ z.cps.toList) = k := by
  unfold signIn at h
  split at h
  · rename_i c e
    cases h
    refine ⟨c, ?_, rfl⟩
    obtain ⟨⟨l⟩⟩ := x
    simp only at e
    rw [e]
  · cases h
theorem memD_some {H G : Hp} (s : Sub G H) {d d' : D} {x y : V} {k : Bool} (t : RT c H G d x) (t' : RT c H G d' y) (e : memD d d' = some k) :
    (∃ (a : Addr) (vs : List V), y = .ref a ∧ (SqL c.K H a vs ∨ SqT c.K H a vs) ∧ flatV x = true ∧ vs.all flatV = true ∧ inV x vs = k) ∨ (∃ (cc : Nat) (z : Str), x = .str ⟨#[cc]⟩ ∧ y = .str z ∧ decide (cc ∈ z.cps.toList) = k) ∨ ∃ a o, y = .ref a ∧ DGet H a x o ∧ o.isSome = k := by
  have sqc : ∀ l, isq d' = some l → inD d l = some k → ∃ (a : Addr) (vs : List V), y = .ref a ∧ (SqL c.K H a vs ∨ SqT c.K H a vs) ∧ flatV x = true ∧ vs.all flatV = true ∧ inV x vs = k := fun l e1 e2 => by
    obtain ⟨v, vs, f1, f2, rfl⟩ := inD_some e2
    obtain ⟨a, xs, rfl, sq, rs⟩ := t'.seq s e1
    obtain ⟨rfl, g1⟩ := flV_rt t f1
    obtain ⟨rfl, g2⟩ := flVs_rs rs f2
    exact ⟨a, vs, rfl, sq, g1, g2, rfl⟩
  cases d' with
  | dk l =>
    simp only [memD, Option.map_eq_some_iff] at e
    obtain ⟨kk, e1, rfl⟩ := e
    obtain rfl := keyD_rt t e1
    obtain ⟨a, kvs, rfl, rd, rs⟩ := t'
    refine .inr (.inr ⟨a, valV kvs kk, rfl, .inl ⟨kvs, kk, rd, rfl, rfl⟩, ?_⟩)
    rcases rs.val kk with ⟨h1, h2⟩ | ⟨d, x, h1, h2, _⟩ <;> rw [h1, h2] <;> rfl
  | str z =>
    obtain rfl := t'.str
    cases d with
    | str w =>
      obtain rfl := t.str
      obtain ⟨cc, rfl, h⟩ := signIn_some (show signIn w z = some k from e)
      exact .inr (.inl ⟨cc, z, rfl, rfl, h⟩)
    | _ => cases e
  | lst l => exact .inl (sqc l rfl e)
  | scr l => exact .inl (sqc l rfl e)
  | tup l => exact .inl (sqc l rfl e)
  | non => cases e
  | bl _ => cases e
  | int _ => cases e
  | dt l =>
    simp only [memD, Option.map_eq_some_iff] at e
    obtain ⟨kk, e1, rfl⟩ := e
    obtain ⟨b, rfl, hb⟩ := keyT_rt s t e1
    obtain ⟨a, kvs, rfl, rd, rs⟩ := t'
    refine .inr (.inr ⟨a, valV kvs kk, rfl, .inr ⟨kvs, kk, b, rd, rfl, hb, rfl⟩, ?_⟩)
    rcases rs.val kk with ⟨h1, h2⟩ | ⟨d, x, h1, h2, _⟩ <;> rw [h1, h2] <;> rfl
  | kt ks => exact .inl (sqc _ rfl e)
  | obj _ _ => cases e
  | clo _ _ => cases e
theorem memN_mem {a b : D} {k : Bool} (h : memN a b = some k) : memD a b = some k := by
  cases b <;> first | exact h | cases h
theorem memN_no {cc : Nat} {a : D} {z : Str} {k : Bool} (h : memN a (.str z) = some k) : False := by cases h
theorem op_in' (hu : X.A.units + 64 < cLine) (hK : X.K = c.K) : OpR X (compareOp .In) (rP2 c .inn) := by
  refine OpR.weak (op_in_seq.or (op_in_sign.or (op_in_dict hu))) fun x y H Q h => ?_
  obtain ⟨G, d, d', s, t, t', q⟩ := h
  obtain ⟨k, e, q⟩ := PostO.map (c := c) (show PostO c H G ((memD d d').map _) Q from q)
  rcases memD_some s t t' e with ⟨a, vs, rfl, sq, g1, g2, rfl⟩ | ⟨cc, z, rfl, rfl, rfl⟩ | ⟨a, o, rfl, g, rfl⟩
  · exact .inl ⟨a, vs, rfl, by rw [hK]; exact sq, g1, g2, Post.sc q s (rsBl _)⟩
  · exact .inr (.inl ⟨cc, z, rfl, rfl, Post.sc q s (rsBl _)⟩)
  · exact .inr (.inr ⟨a, o, rfl, g, Post.sc q s (rsBl _)⟩)
theorem op_notin' (hu : X.A.units + 64 < cLine) (hK : X.K = c.K) : OpR X (compareOp .NotIn) (rP2 c .notin) := by
  refine OpR.weak (op_notIn_seq.or (op_notin_str.or (op_notin_dict hu))) fun x y H Q h => ?_
  obtain ⟨G, d, d', s, t, t', q⟩ := h
  obtain ⟨k, e, q⟩ := PostO.map (c := c) (show PostO c H G ((memN d d').map _) Q from q)
  rcases memD_some s t t' (memN_mem e) with ⟨a, vs, rfl, sq, g1, g2, rfl⟩ | ⟨cc, z, rfl, rfl, rfl⟩ | ⟨a, o, rfl, g, rfl⟩
  · exact .inl ⟨a, vs, rfl, by rw [hK]; exact sq, g1, g2, Post.sc q s (rsBl _)⟩
  · cases d' <;> first | (simp [memN] at e; done) | (simp [RT, RS] at t'; done)
  · exact .inr (.inr ⟨a, o, rfl, g, Post.sc q s (rsBl _)⟩)
theorem op_isnt' : OpR X (compareOp .IsNot) (rP2 c .isnt) := by
  refine OpR.weak op_isnot_bl fun x y H Q h => ?_
  obtain ⟨G, d, d', s, t, t', q⟩ := h
  cases d with
  | bl i =>
    cases d' with
    | bl j =>
      obtain rfl := t.bl
      obtain rfl := t'.bl
      exact ⟨i, j, rfl, rfl, Post.sc q s (rsBl _)⟩
    | _ => exact q.elim
  | _ => exact q.elim
theorem op_iss' : OpR X (compareOp .Is) (rP2 c .iss) := by
  refine OpR.weak op_is_bl fun x y H Q h => ?_
  obtain ⟨G, d, d', s, t, t', q⟩ := h
  cases d with
  | bl i =>
    cases d' with
    | bl j =>
      obtain rfl := t.bl
      obtain rfl := t'.bl
      exact ⟨i, j, rfl, rfl, Post.sc q s (rsBl _)⟩
    | _ => exact q.elim
  | _ => exact q.elim
/-! a place -/
theorem atI_some {α β : Type} {l : List α} {m : List β} (hl : m.length = l.length) {i : Int} {d : α} (e : atI l i = some d) : ∃ j : Nat, l[j]? = some d ∧ ∀ x, m[j]? = some x → atI m i = some x := by
  unfold atI at e ⊢
  rw [hl]
  cases q : ixN l.length i with
  | none => rw [q] at e; cases e
  | some j => rw [q] at e; exact ⟨j, e, fun x hx => hx⟩
theorem ix_idx (hu : X.A.units + 64 < cLine) (hK : X.K = c.K) : IxR X (rP2 c .idx) := by
  refine IxR.weak ((ix_list.or ix_tup).or (ix_str.or (ix_dict hu))) fun x y H Q h => ?_
  obtain ⟨G, d, d', s, t, t', q0⟩ := h
  obtain ⟨r, e, q⟩ := PostO.map (c := c) (show PostO c H G ((idxD d d').map _) Q from q0)
  clear q0
  have sqc : ∀ l, isq d = some l → ∀ i, d' = .int i → atI l i = some r → (rIxL X.K x y H Q ∨ rIxT X.K x y H Q) := fun l e1 i ed e2 => by
    subst ed
    obtain ⟨a, xs, rfl, sq, rs⟩ := t.seq s e1
    obtain rfl := t'.int
    obtain ⟨j, ej, hx⟩ := atI_some rs.len e2
    obtain ⟨x, ex, rx⟩ := rs.get ej
    rw [hK]
    rcases sq with sq | sq
    · exact .inl ⟨a, xs, i, x, rfl, rfl, sq, hx x ex, Post.sc q s rx⟩
    · exact .inr ⟨a, xs, i, x, rfl, rfl, sq, hx x ex, Post.sc q s rx⟩
  cases d with
  | dk l =>
    obtain ⟨kk, e1, e2⟩ := Option.bind_eq_some_iff.mp (show (keyD d').bind (fun k => valO l k) = some r from e)
    obtain rfl := keyD_rt t' e1
    obtain ⟨a, kvs, rfl, rd, rs⟩ := t
    rcases rs.val kk with ⟨h1, h2⟩ | ⟨d, w, h1, h2, rw'⟩
    · rw [h1] at e2; cases e2
    · rw [h1] at e2
      cases e2
      exact .inr (.inr ⟨a, w, rfl, .inl ⟨kvs, kk, rd, rfl, h2.symm⟩, Post.sc q s rw'⟩)
  | str z =>
    obtain rfl := t.str
    cases d' with
    | int i =>
      obtain rfl := t'.int
      have e : (if z.length ≤ sizeLine then (atI z.cps.toList i).map fun c => D.str ⟨#[c]⟩ else none) = some r := e
      split at e
      · rename_i hz
        simp only [Option.map_eq_some_iff] at e
        obtain ⟨cc, e1, rfl⟩ := e
        exact .inr (.inl ⟨z, i, cc, rfl, rfl, hz, e1, Post.sc q s (rsStr _)⟩)
      · cases e
    | _ => cases e
  | lst l =>
    cases d' with
    | int i => exact .inl (sqc l rfl i rfl e)
    | _ => cases e
  | scr l =>
    cases d' with
    | int i => exact .inl (sqc l rfl i rfl e)
    | _ => cases e
  | tup l =>
    cases d' with
    | int i => exact .inl (sqc l rfl i rfl e)
    | _ => cases e
  | non => cases d' <;> cases e
  | bl _ => cases d' <;> cases e
  | int _ => cases d' <;> cases e
  | dt l =>
    obtain ⟨kk, e1, e2⟩ := Option.bind_eq_some_iff.mp (show (keyT d').bind (fun k => valO l k) = some r from e)
    obtain ⟨b, rfl, hb⟩ := keyT_rt s t' e1
    obtain ⟨a, kvs, rfl, rd, rs⟩ := t
    rcases rs.val kk with ⟨h1, h2⟩ | ⟨d, w, h1, h2, rw'⟩
    · rw [h1] at e2; cases e2
    · rw [h1] at e2
      cases e2
      exact .inr (.inr ⟨a, w, rfl, .inr ⟨kvs, kk, b, rd, rfl, hb, h2.symm⟩, Post.sc q s rw'⟩)
  | kt ks =>
    cases d' with
    | int i => exact .inl (sqc _ rfl i rfl e)
    | _ => cases e
  | obj _ _ => cases d' <;> cases e
  | clo _ _ => cases d' <;> cases e
/-- a place, the tuple there seen as such -/
theorem rP2_idxx {x y : V} {H : Hp} {Q : VK} (h : rP2 c .idxx x y H Q) : rP2 c .idx x y H Q := by
  obtain ⟨G, d, d', s, t, t', q⟩ := h
  refine ⟨G, d, d', s, t, t', ?_⟩
  cases e : idxD d d' with
  | none => simp only [p2Sem, e] at q; exact q.elim
  | some r =>
    simp only [p2Sem, e, Option.map_some] at q ⊢
    cases r with
    | obj k l =>
      intro v H' G' Fr g ro
      refine q v H' G' Fr g ?_
      simp only [RO, D.view] at ro ⊢
      exact ⟨ro.1.view, ro.2⟩
    | _ => exact q
theorem ix_idxx (hu : X.A.units + 64 < cLine) (hK : X.K = c.K) : IxR X (rP2 c .idxx) := IxR.weak (ix_idx hu hK) fun _ _ _ _ h => rP2_idxx h
/-! slices -/
theorem sl_sem (hK : X.K = c.K) : SlR X (fun x lo hi H Q => ∃ G d, Sub G H ∧ RT c H G d x ∧ PostO c H G (sliceSem d lo hi) Q) := by
  refine SlR.weak (sl_list.or (sl_str.or sl_tupA)) fun x lo hi H Q h => ?_
  obtain ⟨G, d, s, t, q⟩ := h
  cases d with
  | lst l =>
    obtain ⟨a, xs, rfl, sq, rs⟩ := t
    exact .inl ⟨a, xs, rfl, .inl sq, fun p hp => Post.lst q s (rs.cut lo hi) hp⟩
  | scr l =>
    obtain ⟨a, xs, rfl, sq, rs⟩ := t
    exact .inl ⟨a, xs, rfl, by rw [hK]; exact sq, fun p hp => Post.lst q s (rs.cut lo hi) hp⟩
  | str z =>
    obtain rfl := t.str
    obtain ⟨hz, q⟩ := PostO.ite (c := c) q
    exact .inr (.inl ⟨z, rfl, hz, Post.sc q s (rsStr _)⟩)
  | tup l =>
    have t2 : RS c G (.tup l) x := t
    obtain ⟨a, xs, rfl, sq, rs⟩ := RT.tup c s t
    have rc := rs.cut lo hi
    refine .inr (.inr ⟨a, xs, rfl, by rw [hK]; exact sq, fun h => ?_, fun _ p hp => Post.tup q s rc hp⟩)
    refine Post.sc q s ?_
    have e : cutD l lo hi = l := by
      unfold cutD
      rw [← rs.len, h.1, h.2, List.drop_zero, Nat.sub_zero, rs.len, List.take_length]
    rw [e]
    exact t2
  | _ => exact q.elim
end
end MW
namespace MW
open L2 PyProof.Rows PySem.Spec PySem
section
variable {c : RC} {Ex : XK} {X : Cx}
/-! ### one computation behind another -/
theorem rd_bind {α β γ δ : Type} {rep1 : Rep α β} {rep : Rep γ δ} {f : Env → Out α} {g : α → Env → Out γ} {σ : L2.St} {H : Hp} {Q : δ → Hp → Prop} (h : rdX c Ex rep (fun e => (f e).bind g) σ H Q) :
    rdX c Ex rep1 f σ H (fun b H1 => ∃ HB GB FB G1 F1 Fr1 e1 a, SIM c σ H1 G1 F1 e1 ∧ Step HB GB FB H1 G1 (F1 ++ Fr1) ∧ rep1 σ H1 G1 a b Fr1 ∧ (F1 ++ Fr1).Nodup ∧ (∀ x ∈ Fr1, G1 x = none) ∧ rdB c Ex HB GB FB rep (g a e1) σ Q) := by
  obtain ⟨G, F, e, s, r⟩ := h
  refine ⟨G, F, e, s, ?_⟩
  dsimp only at r
  revert r
  cases f e with
  | ok a e1 => exact fun r b H1 G1 F1 Fr1 s1 st rp nd fr => ⟨H, G, F, G1, F1, Fr1, e1, a, s1, st, rp, nd, fr, r⟩
  | exc k e1 => exact fun r => r
  | bad => exact fun r => r
theorem rd_at {α β γ δ : Type} {rep1 : Rep α β} {rep : Rep γ δ} {f : Env → Out α} {g : α → Env → Out γ} {σ : L2.St} {H HB GB G : Hp} {F FB : List Addr} {e : Env} {Q : δ → Hp → Prop} (s : SIM c σ H G F e) (st : Step HB GB FB H G F) (h : rdB c Ex HB GB FB rep ((f e).bind g) σ Q) :
    rdX c Ex rep1 f σ H (fun b H1 => ∃ G1 F1 Fr1 e1 a, SIM c σ H1 G1 F1 e1 ∧ Step H G F H1 G1 (F1 ++ Fr1) ∧ Step HB GB FB H1 G1 (F1 ++ Fr1) ∧ rep1 σ H1 G1 a b Fr1 ∧ (F1 ++ Fr1).Nodup ∧ (∀ x ∈ Fr1, G1 x = none) ∧ rdB c Ex HB GB FB rep (g a e1) σ Q ∧ f e = .ok a e1) := by
  refine ⟨G, F, e, s, ?_⟩
  revert h
  cases f e with
  | ok a e1 => exact fun r b H1 G1 F1 Fr1 s1 st1 rp nd fr => ⟨G1, F1, Fr1, e1, a, s1, st1, st.trans st1, rp, nd, fr, r, rfl⟩
  | exc k e1 => exact fun r H1 G1 F1 s1 st1 => r H1 G1 F1 s1 (st.trans st1)
  | bad => exact fun r => r
theorem rd_go {α β : Type} {rep : Rep α β} {f : Env → Out α} {σ : L2.St} {H HB GB G : Hp} {F FB : List Addr} {e : Env} {Q : β → Hp → Prop} (s : SIM c σ H G F e) (st : Step HB GB FB H G F) (h : rdB c Ex HB GB FB rep (f e) σ Q) : rdX c Ex rep f σ H Q := by
  refine ⟨G, F, e, s, ?_⟩
  revert h
  cases f e with
  | ok a e1 => exact fun r b H1 G1 F1 Fr1 s1 st1 rp nd fr => r b H1 G1 F1 Fr1 s1 (st.trans st1) rp nd fr
  | exc k e1 => exact fun r H1 G1 F1 s1 st1 => r H1 G1 F1 s1 (st.trans st1)
  | bad => exact fun r => r
/-- the end of a computation that only tells a shared value -/
theorem rd_end {σ : L2.St} {H HB GB G : Hp} {F FB : List Addr} {e : Env} {d : D} {v : V} {Q : VK} (s : SIM c σ H G F e) (st : Step HB GB FB H G F) (h : rdB c Ex HB GB FB (repO c) (.ok (.s d) e) σ Q) (r : RS c G d v) : Q v H :=
  h v H G F [] s (by simpa using st) (by simp only [repO, RO]; exact ⟨r, trivial⟩) (by simpa using s.nd) (fun _ z => by cases z)
theorem rd_endB {σ : L2.St} {H HB GB G : Hp} {F FB : List Addr} {e : Env} {b : Bool} {Q : Bool → Hp → Prop} (s : SIM c σ H G F e) (st : Step HB GB FB H G F) (h : rdB c Ex HB GB FB repB (.ok b e) σ Q) : Q b H :=
  h b H G F [] s (by simpa using st) ⟨rfl, rfl⟩ (by simpa using s.nd) (fun _ z => by cases z)
/-- what is carried along while more is computed -/
theorem Step.carry {H G H1 G1 H2 G2 : Hp} {F F1 Fr F2 : List Addr} (x : Step H G F H1 G1 (F1 ++ Fr)) (y : Step H1 G1 F1 H2 G2 F2) (nd : (F1 ++ Fr).Nodup) (fr : ∀ a ∈ Fr, G1 a = none) (th : ∀ a ∈ Fr, ∃ o, H1 a = Option.some o ∧ nt o) (nd2 : F2.Nodup) :
    Step H G F H2 G2 (F2 ++ Fr) ∧ AgreeOn Fr H1 H2 ∧ (F2 ++ Fr).Nodup ∧ (∀ a ∈ Fr, G2 a = none) := by
  have dis : ∀ a, a ∈ Fr → a ∉ F1 := fun a h1 h2 => (List.nodup_append.mp nd).2.2 a h2 a h1 rfl
  have x' : Step H G F H1 G1 F1 := x.less fun a h => List.mem_append_left _ h
  have xy := x'.trans y
  have g2 : ∀ a ∈ Fr, G2 a = none := fun a ha => by
    cases q : G2 a with
    | none => rfl
    | some o =>
      rcases y.fG a (by rw [q]; simp) with z | z | z
      · exact absurd (fr a ha) z
      · exact absurd z (dis a ha)
      · obtain ⟨o', e1, _⟩ := th a ha
        rw [e1] at z; cases z
  refine ⟨⟨xy.keep, xy.some, xy.gle, fun a ha => ?_, xy.fG⟩, fun a ha o q => ?_, ?_, fun a ha => ?_⟩
  · rcases List.mem_append.mp ha with h | h
    · exact xy.fF a h
    · exact x.fF a (List.mem_append_right _ h)
  · obtain ⟨o', e1, n⟩ := th a ha
    rw [e1] at q; cases q
    exact y.keep a _ e1 n (dis a ha) (g2 a ha)
  · refine List.nodup_append.mpr ⟨nd2, (List.nodup_append.mp nd).2.1, fun a h1 b h2 e => ?_⟩
    subst e
    rcases y.fF a h1 with z | z
    · exact dis a h2 z
    · obtain ⟨o', e1, _⟩ := th a h2
      rw [e1] at z; cases z
  · cases q : G2 a with
    | none => rfl
    | some o =>
      rcases y.fG a (by rw [q]; simp) with z | z | z
      · exact absurd (fr a ha) z
      · exact absurd z (dis a ha)
      · obtain ⟨o', e1, _⟩ := th a ha
        rw [e1] at z; cases z
/-- the slots stay while a part Fr beside them changes -/
theorem SIM.beside {σ : L2.St} {H G H2 G2 : Hp} {F Fr F2 : List Addr} {e : Env} (s : SIM c σ H G F e) (nd : (F ++ Fr).Nodup) (y : Step H G Fr H2 G2 F2) (sub : Sub G2 H2) (nd2 : F2.Nodup) :
    SIM c σ H2 G2 F e ∧ (F ++ F2).Nodup := by
  have th : ∀ a ∈ F, ∃ o, H a = some o ∧ nt o := REnv.there s.ren
  have dis : ∀ a, a ∈ F → a ∉ Fr := fun a h1 h2 => (List.nodup_append.mp nd).2.2 a h1 a h2 rfl
  have g2 : ∀ a ∈ F, G2 a = none := fun a ha => by
    cases q : G2 a with
    | none => rfl
    | some o =>
      rcases y.fG a (by rw [q]; simp) with z | z | z
      · exact absurd (s.gf a ha) z
      · exact absurd z (dis a ha)
      · obtain ⟨o', e1, _⟩ := th a ha
        rw [e1] at z; cases z
  refine ⟨⟨sub, REnv.mono y.gle (fun a ha o q => ?_) s.ren, s.nd, fun a ha => ?_⟩, ?_⟩
  · obtain ⟨o', e1, n⟩ := th a ha
    rw [e1] at q; cases q
    exact y.keep a _ e1 n (dis a ha) (g2 a ha)
  · cases q : G2 a with
    | none => rfl
    | some o =>
      rcases y.fG a (by rw [q]; simp) with z | z | z
      · exact absurd (s.gf a ha) z
      · exact absurd z (dis a ha)
      · obtain ⟨o', e1, _⟩ := th a ha
        rw [e1] at z; cases z
  · refine List.nodup_append.mpr ⟨s.nd, nd2, fun a h1 b h2 e => ?_⟩
    subst e
    rcases y.fF a h2 with z | z
    · exact dis a h1 z
    · obtain ⟨o', e1, _⟩ := th a h1
      rw [e1] at z; cases z
/-! ### tests -/
def tst (f : Env → Out OD) : Env → Out Bool := fun e => (f e).bind fun od e => .opt (truD od.toD) e
theorem tst_bool {f : Env → Out OD} (hb : ∀ e od e', f e = .ok od e' → ∃ k, od = .s (.bl k)) {σ : L2.St} {H : Hp} {Q : Bool → Hp → Prop} (h : rdX c Ex repB (tst f) σ H Q) : rdX c Ex (repO c) f σ H (fun x H' => ∃ k, x = .bl k ∧ Q k H') := by
  obtain ⟨G, F, e, s, r⟩ := h
  refine ⟨G, F, e, s, ?_⟩
  simp only [tst] at r
  revert r
  cases q : f e with
  | ok od e1 =>
    obtain ⟨k, rfl⟩ := hb _ _ _ q
    intro r v H1 G1 F1 Fr1 s1 st rp nd fr
    simp only [repO, RO, RS] at rp
    obtain ⟨rfl, rfl⟩ := rp
    simp only [List.append_nil] at st
    exact ⟨k, rfl, rd_endB s1 st r⟩
  | exc k e1 => exact fun r => r
  | bad => exact fun r => r
theorem RS.tru {H G : Hp} {K : PySem.W.Frag} (hK : c.K = K) (s : Sub G H) {d : D} {v : V} {k : Bool} (h : RS c G d v) (e : truD d = some k) : TruV K v H k := by
  have em : ∀ {l : List D} {xs : List V}, RSL c G l xs → (!xs.isEmpty) = !l.isEmpty := fun {l xs} r => by
    have := r.len
    cases l <;> cases xs <;> simp_all
  cases d <;> simp only [truD, Option.some.injEq, reduceCtorEq] at e
  · simp only [RS] at h; subst h; exact e.symm
  · simp only [RS] at h; subst h; exact e.symm
  · simp only [RS] at h; subst h; exact e.symm
  · simp only [RS] at h
    obtain ⟨a, xs, rfl, q, r⟩ := h
    exact .inr (.inl ⟨xs, hK ▸ s.tup q, by rw [em r]; exact e.symm⟩)
  · simp only [RS] at h
    obtain ⟨a, xs, rfl, q, r⟩ := h
    exact .inl ⟨xs, .inl (s.rd q), by rw [em r]; exact e.symm⟩
theorem tst_plain {K : PySem.W.Frag} (hK : c.K = K) {f : Env → Out OD} {σ : L2.St} {H : Hp} {Q : Bool → Hp → Prop} (h : rdX c Ex repB (tst f) σ H Q) : rdX c Ex (repO c) f σ H (fun x H' => ∃ k, TruV K x H' k ∧ Q k H') := by
  refine rdE_S ?_
  obtain ⟨G, F, e, s, r⟩ := h
  refine ⟨G, F, e, s, ?_⟩
  simp only [tst] at r
  revert r
  cases q : f e with
  | ok od e1 =>
    intro r v H1 G1 F1 Fr1 s1 st rp nd fr
    obtain ⟨rfl, rp⟩ := rp
    simp only [List.append_nil] at st
    simp only [Out.bind] at r
    cases q2 : truD od.toD with
    | none => rw [q2] at r; exact r.elim
    | some k =>
      rw [q2] at r
      exact ⟨k, rp.tru hK s1.sub q2, rd_endB s1 st r⟩
  | exc k e1 => exact fun r => r
  | bad => exact fun r => r
/-- what is told of an expression: as a value, as a test, as a place that is read in place -/
structure Good (c : RC) (Ex : XK) (X : Cx) (C : CallS) (a : ME) (x : Expr) : Prop where
  pe : PE X x (rdX c Ex (repO c) (ev C a))
  pt : PT X x (rdX c Ex repB (tst (ev C a)))
  pv : ∀ i, a = .bv i → PE X x (tVar i)
  pw : ∀ op vs pos, x = .BoolOp op vs pos → PW X x (rdX c Ex repB (tst (ev C a)))
  ns : noStar x = true
theorem Good.opd {C : CallS} {a : ME} {x : Expr} (g : Good c Ex X C a x) : PE X x (rdX c Ex (repP c) (MW.opd a (ev C a))) := pe_opd g.pe g.pv
theorem Good.S {C : CallS} {a : ME} {x : Expr} (g : Good c Ex X C a x) : PE X x (rdX c Ex (repS c) (ev C a)) := PE.weak g.pe fun _ _ _ h => rdE_S h
def plainT (x : Expr) : Bool := match x with
  | .UnaryOp .Not _ _ => false
  | .BoolOp .. => false
  | .IfExp .. => false
  | .Compare .. => false
  | _ => true
theorem plainT_ok {x : Expr} (h : plainT x = true) {env : PySem.Env} : ∀ whole, isTrue x env whole = (do let v ← whole; standAt x.pos; holding [v] (truthy v)) := by
  intro whole
  cases x with
  | UnaryOp op y p =>
    cases op with
    | Not => cases h
    | _ => rfl
  | BoolOp => cases h
  | IfExp => cases h
  | Compare => cases h
  | _ => rfl
/-- a plain expression -/
theorem Good.plain {C : CallS} {a : ME} {x : Expr} (hK : X.K = c.K) (pe : PE X x (rdX c Ex (repO c) (ev C a))) (pl : plainT x = true) (ns : noStar x = true) (pv : ∀ i, a = .bv i → PE X x (tVar i)) : Good c Ex X C a x := by
  refine ⟨pe, PT.weak (pt_truth pe (plainT_ok pl)) fun σ H Q h => tst_plain hK.symm h, pv, fun op vs pos e => ?_, ns⟩
  subst e; cases pl
/-- one that gives True or False by a rule of its own -/
theorem Good.cmp {C : CallS} {a : ME} {x : Expr} {t : TE} (pe : PE X x t) (pt : PT X x (tTest t)) (w : ∀ σ H Q, rdX c Ex (repO c) (ev C a) σ H Q → t σ H Q) (hb : ∀ e od e', ev C a e = .ok od e' → ∃ k, od = .s (.bl k)) (ns : noStar x = true)
    (nb : ∀ op vs pos, x ≠ .BoolOp op vs pos) (nv : ∀ i, a ≠ .bv i) : Good c Ex X C a x :=
  ⟨PE.weak pe w, PT.weak pt fun σ H Q h => w _ _ _ (tst_bool hb h), fun i e => absurd e (nv i), fun op vs pos e => absurd e (nb op vs pos), ns⟩
end
end MW
namespace MW
open L2 PyProof.Rows PySem.Spec PySem
section
variable {c : RC} {Ex : XK} {X : Cx} {M : Mo} {N : List Str} {sc : Scope} {top : Bool} {lvl : Nat} {C : CallS}
theorem ev_p2_ok {p : P2} {a b : ME} {e e' : Env} {od : OD} (h : ev C (.p2 p a b) e = .ok od e') : ∃ d d', p2Sem p d d' = some od := by
  rw [ev_p2] at h
  dsimp only at h
  cases h1 : MW.opd a (ev C a) e with
  | ok ra e1 =>
    rw [h1] at h
    simp only [Out.bind] at h
    cases h2 : MW.opd b (ev C b) e1 with
    | ok rb e2 =>
      rw [h2] at h
      simp only at h
      split at h
      · rename_i d d' _ _
        unfold Out.opt at h
        split at h
        · rename_i q; cases h; exact ⟨_, _, q⟩
        · cases h
      · cases h
    | exc k e2 => rw [h2] at h; cases h
    | bad => rw [h2] at h; cases h
  | exc k e1 => rw [h1] at h; cases h
  | bad => rw [h1] at h; cases h
theorem p2_bool {p : P2} {op : CmpOp} (hp : p2Cmp p = some op) {d d' : D} {od : OD} (h : p2Sem p d d' = some od) : ∃ k, od = .s (.bl k) := by
  cases p <;> simp [p2Cmp] at hp <;> simp only [p2Sem] at h
  · simp only [Option.map_eq_some_iff] at h; obtain ⟨k, _, rfl⟩ := h; exact ⟨_, rfl⟩
  · simp only [Option.map_eq_some_iff] at h; obtain ⟨k, _, rfl⟩ := h; exact ⟨_, rfl⟩
  · obtain ⟨_, _, _, _, rfl⟩ := cmpI_some h; exact ⟨_, rfl⟩
  · obtain ⟨_, _, _, _, rfl⟩ := cmpI_some h; exact ⟨_, rfl⟩
  · obtain ⟨_, _, _, _, rfl⟩ := cmpI_some h; exact ⟨_, rfl⟩
  · obtain ⟨_, _, _, _, rfl⟩ := cmpI_some h; exact ⟨_, rfl⟩
  · simp only [Option.map_eq_some_iff] at h; obtain ⟨k, _, rfl⟩ := h; exact ⟨_, rfl⟩
  · simp only [Option.map_eq_some_iff] at h; obtain ⟨k, _, rfl⟩ := h; exact ⟨_, rfl⟩
  · split at h
    · cases h; exact ⟨_, rfl⟩
    · cases h
  · split at h
    · cases h; exact ⟨_, rfl⟩
    · cases h
theorem ev_p1_ok {p : P1} {a : ME} {e e' : Env} {od : OD} (h : ev C (.p1 p a) e = .ok od e') : ∃ d, p1Sem p d = some od := by
  rw [ev_p1] at h
  dsimp only at h
  cases h1 : MW.opd a (ev C a) e with
  | ok ra e1 =>
    rw [h1] at h
    simp only [Out.bind] at h
    split at h
    · unfold Out.opt at h
      split at h
      · rename_i q; cases h; exact ⟨_, q⟩
      · cases h
    · cases h
  | exc k e1 => rw [h1] at h; cases h
  | bad => rw [h1] at h; cases h
theorem ok_m1G (K : Ctx M c Ex N sc top lvl X) {p : P1} {a : ME} {r : Expr → Bool} (hr : ∀ y, r y = true → Good c Ex X C a y) {x : Expr} (h : m1 p sc r x = true) : Good c Ex X C (.p1 p a) x := by
  have pe := ok_m1 K (fun y q => ⟨(hr y q).opd, (hr y q).ns⟩) h
  unfold m1 at h
  split at h
  · split at h
    · exact .plain K.hK pe rfl rfl (fun i e => by cases e)
    · cases h
  · split at h
    · have g := hr _ h
      refine .cmp (t := tIsN (rdX c Ex (repP c) (MW.opd a (ev C a)))) (pe_cmp (pc_isN g.opd) rfl) (pt_cmp (pc_isN g.opd) rfl) (fun σ H Q h => ?_) (fun e od e' q => ?_) rfl (fun _ _ _ e => by cases e) (fun _ e => by cases e)
      · rw [ev_p1] at h
        refine (seq1 h).imp fun v H1 q => ?_
        obtain ⟨G, d, s, t, q⟩ := q
        have q' := Post.sc q s (rsBl _)
        rw [t.isNon]
        exact q'
      · obtain ⟨d, q⟩ := ev_p1_ok q
        simp only [p1Sem, Option.some.injEq] at q
        exact ⟨_, q.symm⟩
    · have g := hr _ h
      refine .cmp (t := tNotN (rdX c Ex (repP c) (MW.opd a (ev C a)))) (pe_cmp (pc_notN g.opd) rfl) (pt_cmp (pc_notN g.opd) rfl) (fun σ H Q h => ?_) (fun e od e' q => ?_) rfl (fun _ _ _ e => by cases e) (fun _ e => by cases e)
      · rw [ev_p1] at h
        refine (seq1 h).imp fun v H1 q => ?_
        obtain ⟨G, d, s, t, q⟩ := q
        have q' := Post.sc q s (rsBl _)
        rw [t.isNon]
        exact q'
      · obtain ⟨d, q⟩ := ev_p1_ok q
        simp only [p1Sem, Option.some.injEq] at q
        exact ⟨_, q.symm⟩
    · cases h
  · exact .plain K.hK pe rfl rfl (fun i e => by cases e)
  · exact .plain K.hK pe rfl rfl (fun i e => by cases e)
  · cases h
theorem op_bin (K : Ctx M c Ex N sc top lvl X) {p : P2} {op : Operator} (h : p2Bin p = some op) : OpR X (binaryOp op) (rP2 c p) := by
  cases p <;> simp [p2Bin] at h <;> subst h
  · exact op_add' K.hK
  · exact op_sub'
  · exact op_mul'
  · exact op_mod'
  · exact op_fdiv'
  · exact op_pow'
  · exact op_shl'
  · exact op_shr'
  · exact op_band'
theorem op_cmp (K : Ctx M c Ex N sc top lvl X) {p : P2} {op : CmpOp} (h : p2Cmp p = some op) : OpR X (compareOp op) (rP2 c p) := by
  cases p <;> simp [p2Cmp] at h <;> subst h
  · exact op_eq' K.hu K.hK
  · exact op_ne' K.hu K.hK
  · exact op_lt'
  · exact op_le'
  · exact op_gt'
  · exact op_ge'
  · exact op_in' K.hu K.hK
  · exact op_notin' K.hu K.hK
  · exact op_isnt'
  · exact op_iss'
theorem w2 {p : P2} {a b : ME} {σ : L2.St} {H : Hp} {Q : VK} (h : rdX c Ex (repO c) (ev C (.p2 p a b)) σ H Q) : tOp (rP2 c p) (rdX c Ex (repP c) (MW.opd a (ev C a))) (rdX c Ex (repP c) (MW.opd b (ev C b))) σ H Q := by
  rw [ev_p2] at h
  exact seq2 h
theorem plainIx {y : Expr} (h : noSlice y = true) : PlainIx y := by
  intro o i
  cases y <;> first | rfl | cases h
theorem cr_max2' (hc : X.calm = true) : CallR X (.builtin "max") (fun xs H Q => ∃ x y, xs = [x, y] ∧ rP2 c .max2 x y H Q) := by
  refine CallR.weak (call_max2 hc) fun xs H Q h => ?_
  obtain ⟨x, y, rfl, G, d, d', s, t, t', q⟩ := h
  cases d with
  | int i =>
    cases d' with
    | int j => obtain rfl := t.int; obtain rfl := t'.int; exact ⟨i, j, rfl, Post.sc q s (rsInt _)⟩
    | _ => exact q.elim
  | _ => exact q.elim
theorem cr_min2' (hc : X.calm = true) : CallR X (.builtin "min") (fun xs H Q => ∃ x y, xs = [x, y] ∧ rP2 c .min2 x y H Q) := by
  refine CallR.weak (call_min2 hc) fun xs H Q h => ?_
  obtain ⟨x, y, rfl, G, d, d', s, t, t', q⟩ := h
  cases d with
  | int i =>
    cases d' with
    | int j => obtain rfl := t.int; obtain rfl := t'.int; exact ⟨i, j, rfl, Post.sc q s (rsInt _)⟩
    | _ => exact q.elim
  | _ => exact q.elim
theorem blt2 (K : Ctx M c Ex N sc top lvl X) {p : P2} {a b : ME} {f : Str} {x y : Expr} {id : String} {p0 pos : Pos} (hg : gl sc f = true) (hf : f ∈ bltNames) (hn : f ≠ "__name__") (hd : (f == ("__debug__" : Str)) = false)
    (hb : bootBuiltins f = some (.builtin id)) (hc : CallR X (.builtin id) (fun xs H Q => ∃ x y, xs = [x, y] ∧ rP2 c p x y H Q)) (ga : Good c Ex X C a x) (gb : Good c Ex X C b y) :
    PE X (.Call (.Name f p0) [x, y] [] pos) (rdX c Ex (repO c) (ev C (.p2 p a b))) := by
  refine PE.weak (pe_callB hc (K.gl hg) (K.free hf) hb (pa_cons ga.opd (pa_cons gb.opd pa_nil (hs := star_cons gb.ns)) (hs := star_cons ga.ns)) (hn := hn) (hdb := hd) (he := star_cons ga.ns) (hpl := by rw [star_cons gb.ns]; rfl)) fun σ H Q h => ?_
  refine (w2 h : tOp _ _ _ σ H Q).imp fun v H1 q => q.imp fun w H2 q => ⟨v, w, rfl, q⟩
theorem ok_m2 (K : Ctx M c Ex N sc top lvl X) {p : P2} {a b : ME} {ra rb : Expr → Bool} (hra : ∀ y, ra y = true → Good c Ex X C a y) (hrb : ∀ y, rb y = true → Good c Ex X C b y) {x : Expr} (h : m2 p sc ra rb x = true) :
    Good c Ex X C (.p2 p a b) x := by
  unfold m2 at h
  split at h
  · rename_i y op z pos
    simp only [Bool.and_eq_true, decide_eq_true_eq] at h
    obtain ⟨⟨hp, ha⟩, hb⟩ := h
    exact .plain K.hK (PE.weak (pe_op (op_bin K hp) (hra _ ha).opd (hrb _ hb).opd) fun σ H Q h => w2 h) rfl rfl (fun i e => by cases e)
  · rename_i y op z pos
    simp only [Bool.and_eq_true, decide_eq_true_eq, Bool.not_eq_true'] at h
    obtain ⟨⟨⟨hp, hm⟩, ha⟩, hb⟩ := h
    refine .cmp (pe_cmpR (op_cmp K hp) (hra _ ha).opd (hrb _ hb).opd hm) (pt_cmpR (op_cmp K hp) (hra _ ha).opd (hrb _ hb).opd hm) (fun σ H Q h => w2 h) (fun e od e' q => ?_) rfl (fun _ _ _ e => by cases e) (fun _ e => by cases e)
    obtain ⟨d, d', q'⟩ := ev_p2_ok q
    exact p2_bool hp q'
  · rename_i y z pos
    unfold mSub at h
    split at h
    · rename_i z p2
      simp only [Bool.and_eq_true] at h
      obtain ⟨⟨hp, ha⟩, hb⟩ := h
      obtain rfl : p = .sliceLo := by cases p <;> first | rfl | cases hp
      refine .plain K.hK (PE.weak (pe_slice (sl_sem K.hK) (hra _ ha).opd (po_some (hrb _ hb).opd) po_none) fun σ H Q h => ?_) rfl rfl (fun i e => by cases e)
      refine (w2 h : tOp _ _ _ σ H Q).imp fun v H1 q => q.imp fun w H2 q => ?_
      obtain ⟨G, d, d', s, t, t', q⟩ := q
      cases d' with
      | int i => exact ⟨i, t'.int, G, d, s, t, q⟩
      | _ => exact q.elim
    · rename_i z p2
      simp only [Bool.and_eq_true] at h
      obtain ⟨⟨hp, ha⟩, hb⟩ := h
      obtain rfl : p = .sliceHi := by cases p <;> first | rfl | cases hp
      refine .plain K.hK (PE.weak (pe_slice (sl_sem K.hK) (hra _ ha).opd po_none (po_some (hrb _ hb).opd)) fun σ H Q h => ?_) rfl rfl (fun i e => by cases e)
      refine (w2 h : tOp _ _ _ σ H Q).imp fun v H1 q => q.imp fun w H2 q => ?_
      obtain ⟨G, d, d', s, t, t', q⟩ := q
      cases d' with
      | int i => exact ⟨i, t'.int, G, d, s, t, q⟩
      | _ => exact q.elim
    · simp only [Bool.and_eq_true] at h
      obtain ⟨⟨⟨hp, ha⟩, hb⟩, hs⟩ := h
      have hp2 : p = .idx ∨ p = .idxx := by cases p <;> first | exact .inl rfl | exact .inr rfl | cases hp
      rcases hp2 with rfl | rfl
      · exact .plain K.hK (PE.weak (pe_ix (ix_idx K.hu K.hK) (hra _ ha).opd (hrb _ hb).opd (plainIx hs)) fun σ H Q h => w2 h) rfl rfl (fun i e => by cases e)
      · exact .plain K.hK (PE.weak (pe_ix (ix_idxx K.hu K.hK) (hra _ ha).opd (hrb _ hb).opd (plainIx hs)) fun σ H Q h => w2 h) rfl rfl (fun i e => by cases e)
  · rename_i f p0 y z pos
    simp only [Bool.and_eq_true, decide_eq_true_eq] at h
    obtain ⟨⟨⟨hg, hp⟩, ha⟩, hb⟩ := h
    refine .plain K.hK ?_ rfl rfl (fun i e => by cases e)
    cases p <;> simp [p2Name] at hp <;> subst hp
    · exact blt2 K hg (by decide +kernel) (by decide +kernel) (by decide +kernel) (by decide +kernel) (cr_max2' K.calm) (hra _ ha) (hrb _ hb)
    · exact blt2 K hg (by decide +kernel) (by decide +kernel) (by decide +kernel) (by decide +kernel) (cr_min2' K.calm) (hra _ ha) (hrb _ hb)
  · cases h
theorem ev_slc {a b d : ME} : ev C (.slc a b d) = fun e => (MW.opd a (ev C a) e).bind fun a e => (ev C b e).bind fun b e => match b.toD with
    | .int i => (ev C d e).bind fun c e => (match c.toD with
      | .int j => (match a.res e with
        | some d => .opt (sliceSem d (some i) (some j)) e
        | none => .bad)
      | _ => .bad)
    | _ => .bad := by
  funext e; rfl
theorem repS_int {σ : L2.St} {H G : Hp} {od : OD} {v : V} {F : List Addr} {i : Int} (h : repS c σ H G od v F) (e : od.toD = .int i) : F = [] ∧ v = .int i := by
  obtain ⟨h1, h2⟩ := h
  rw [e] at h2
  simp only [RS] at h2
  exact ⟨h1, h2⟩
theorem ok_slc (K : Ctx M c Ex N sc top lvl X) {a b d : ME} {ra rb rc : Expr → Bool} (hra : ∀ y, ra y = true → Good c Ex X C a y) (hrb : ∀ y, rb y = true → Good c Ex X C b y) (hrc : ∀ y, rc y = true → Good c Ex X C d y) {x : Expr} (h : mSlc ra rb rc x = true) :
    Good c Ex X C (.slc a b d) x := by
  unfold mSlc at h
  split at h
  · rename_i y z w p2 pos
    simp only [Bool.and_eq_true] at h
    obtain ⟨⟨ha, hb⟩, hc⟩ := h
    refine .plain K.hK (PE.weak (pe_slice (sl_sem K.hK) (hra _ ha).opd (po_some (hrb _ hb).S) (po_some (hrc _ hc).S)) fun σ H Q h => ?_) rfl rfl (fun i e => by cases e)
    rw [ev_slc] at h
    obtain ⟨G, F, e, s, h⟩ := h
    refine (rd_at (rep1 := repP c) s Step.refl h).imp fun v H1 q => ?_
    obtain ⟨G1, F1, Fr1, e1, o, s1, _, st1, rp1, nd1, fr1, q, _⟩ := q
    have hf : Fr1 = [] := by cases o <;> exact rp1.1
    subst hf
    simp only [List.append_nil] at st1
    refine (rd_at (rep1 := repS c) s1 st1 q).imp fun v2 H2 q => ?_
    obtain ⟨G2, F2, Fr2, e2, o2, s2, g2, st2, rp2, nd2, fr2, q, _⟩ := q
    split at q
    · rename_i i hi
      obtain ⟨rfl, rfl⟩ := repS_int rp2 hi
      simp only [List.append_nil] at st2
      refine ⟨i, rfl, (rd_at (rep1 := repS c) s2 st2 q).imp fun v3 H3 q => ?_⟩
      obtain ⟨G3, F3, Fr3, e3, o3, s3, g3, st3, rp3, nd3, fr3, q, _⟩ := q
      split at q
      · rename_i j hj
        obtain ⟨rfl, rfl⟩ := repS_int rp3 hj
        simp only [List.append_nil] at st3
        split at q
        · rename_i d' hd
          refine ⟨j, rfl, G3, d', s3.sub, opd_top s3 (g2.gle.trans g3.gle) rp1 hd, ?_⟩
          cases q2 : sliceSem d' (some i) (some j) with
          | none => rw [q2] at q; exact q.elim
          | some od =>
            rw [q2] at q
            intro v H4 G4 Fr4 g ro
            obtain ⟨s4, st4, nd4, fr4⟩ := s3.grow g
            exact q v H4 G4 F3 Fr4 s4 (st3.trans st4) ro nd4 fr4
        · exact q.elim
      · exact q.elim
    · exact q.elim
  · cases h
end
end MW
namespace MW
open L2 PyProof.Rows PySem.Spec PySem
section
variable {X : Cx}
/-- t.index(x): t a tuple without a dict, its items numbers -/
def tTix (to te : TE) : TE := fun σ H Q => to σ H fun x H1 => (∃ (p : Addr) (o : Obj) (xs : List V), x = .ref p ∧ H1 p = some (.frz o (.tup xs)) ∧ o.dict = none) ∧
  te σ H1 fun y H2 => ∃ (p : Addr) (o : Obj) (ns : List Int) (i : Int), x = .ref p ∧ y = .int i ∧ H2 p = some (.frz o (.tup (ns.map V.int))) ∧ i ∈ ns ∧ Q (.int (ns.idxOf i : Nat)) H2
theorem pe_tix {o e : Expr} {to te : TE} {apos cpos : Pos} (ho : PE X o to) (he : PE X e te) (hs : starEach [e] X.env = [(false, eval e X.env)])
    (hbase : attributeBase o "index" X.env (eval o X.env) = eval o X.env) (hline : (apos.endLine == cpos.line) = true) : PE X (.Call (.Attribute o "index" apos) [e] [] cpos) (tTix to te) := by
  refine ⟨fun pins s σ H Q I h => ?_⟩
  refine wpAny_Call_method_late hbase (by rw [hs]; rfl) hline rfl (thn (ho.run pins s σ H _ I h) fun v s1 ⟨x, H1, I1, r1, ⟨p, ob, xs, ex, hp, hd⟩, q1⟩ => ?_)
  subst ex
  obtain rfl : v = .ref p := r1
  obtain ⟨hg, ht⟩ := (show ObjOk X.prog X.w H1 s1.heap p (.frz ob (.tup xs)) from I1.hok p _ hp)
  obtain ⟨_, its, _, o2, h1, h2, _⟩ := ht
  have eo : o2 = ob := by rw [hg] at h1; exact (Option.some.inj h1).symm
  refine ⟨"tuple", "tuple.index", PySem.F.plainAttrs_tuple, PySem.F.slot_tuple_index, PySem.F.type_tuple_index, ⟨o2, h1, h2⟩, fun a e => ?_, ?_⟩
  · cases e
    exact ⟨ob, hg, hd⟩
  rw [hs]
  refine Calls.callWith_builtin rfl (Calls.evalArgs_plain (Calls.spliced_cons ?_))
  refine thn (he.run pins s1 σ H1 _ I1 q1) fun u s2 ⟨y, H2, I2, r2, p2, ob2, ns, i, e1, e2, hp2, hm, q2⟩ => Calls.spliced_nil ?_
  cases e1
  subst e2
  obtain ⟨k, rfl⟩ := (show ∃ t, u = Value.int i t from r2)
  obtain ⟨hg2, hz, us, rv, tp⟩ := (show ObjOk X.prog X.w H2 s2.heap p (.frz ob2 (.tup (ns.map V.int))) from I2.hok p _ hp2)
  have tp' : s2.heap.IsTuple p us.toArray := tp
  exact PySem.SeqAt.call_tuple_index tp' (PySem.SeqAt.ItemsEq.ints (RZ.intsAre_vals rv)) hm ⟨.int (ns.idxOf i : Nat), H2, I2.tok _, ⟨_, rfl⟩, q2⟩
end
end MW
namespace MW
open L2 PyProof.Rows PySem.Spec PySem
section
variable {c : RC} {Ex : XK} {X : Cx} {M : Mo} {N : List Str} {sc : Scope} {top : Bool} {lvl : Nat} {C : CallS}
/-! names and constants -/
theorem vis_of (K : Ctx M c Ex N sc top lvl X) {i : Nat} {x : Str} (h : slotOk N sc i x = true) : X.N[i]? = some x ∧ Vis X.env.scope x ∧ (x == ("__debug__" : Str)) = false ∧ (x == ("__classdict__" : Str)) = false := by
  unfold slotOk at h
  simp only [Bool.and_eq_true, Bool.or_eq_true, decide_eq_true_eq] at h
  obtain ⟨⟨⟨h1, h2⟩, h3⟩, h4⟩ := h
  refine ⟨by rw [K.n]; exact h1, ?_, h3, h4⟩
  rw [K.sc]
  rcases h2 with (h | h) | h
  · exact .inl h
  · exact .inr (.inl h)
  · exact .inr (.inr h)
theorem pe_name (K : Ctx M c Ex N sc top lvl X) {i : Nat} {x : Str} {pos : Pos} (h : slotOk N sc i x = true) : PE X (.Name x pos) (tVar i) := by
  obtain ⟨h1, h2, h3, h4⟩ := vis_of K h
  exact pe_var h1 h2 h3 h4
/-- the slot i handed on as shared data -/
theorem SIM.seal {σ : L2.St} {H G : Hp} {F : List Addr} {e : Env} {i : Nat} {od : OD} (s : SIM c σ H G F e) (h : e[i]? = some (some od)) :
    ∃ v G' F', σ[i]? = some (some v) ∧ SIM c σ H G' F' (e.set i (some (.s od.toD))) ∧ Step H G F H G' F' ∧ RS c G' od.toD v := by
  obtain ⟨v, Fa, Fi, Fb, e1, rfl, ro, put, _⟩ := s.ren.get h
  have nd := s.nd
  have hFi : ∀ a ∈ Fi, G a = none := fun a ha => s.gf a (by simp [ha])
  have dis : ∀ a ∈ Fa ++ Fb, a ∉ Fi := fun a ha hi => by
    rw [List.nodup_append] at nd
    obtain ⟨n1, n2, n3⟩ := nd
    rw [List.nodup_append] at n2
    rcases List.mem_append.mp ha with h | h
    · exact n3 a h a (by simp [hi]) rfl
    · exact n2.2.2 a hi a h rfl
  have le : Gle G (shr G H Fi) := shr_le hFi
  have rs : RS c (shr G H Fi) od.toD v := RO.share le shr_agree ro
  have hs : σ.set i (some v) = σ := by
    apply List.ext_getElem?
    intro j
    by_cases hj : i = j
    · subst hj
      obtain ⟨hl, _⟩ := List.getElem?_eq_some_iff.mp e1
      rw [List.getElem?_set_self hl, e1]
    · rw [List.getElem?_set_ne hj]
  refine ⟨v, shr G H Fi, Fa ++ Fb, e1, ⟨fun a o q => ?_, ?_, ?_, fun a ha => ?_⟩, ⟨fun a o q _ _ _ => q, fun a q => q, le, fun a ha => ?_, fun a q => ?_⟩, rs⟩
  · unfold shr at q
    split at q
    · rename_i z
      obtain ⟨o2, h2, h3⟩ := RO.seqs ro a z
      rw [q] at h2
      cases h2
      exact .inl ⟨q, nm_of h3⟩
    · exact (s.sub a o q).imp id (Or.imp id fun ⟨y, z, t⟩ => ⟨y, z, t.mono le⟩)
  · have := put H (shr G H Fi) (.s od.toD) v [] le (fun a _ o q => q) (by simp only [RO]; exact ⟨rs, trivial⟩)
    rw [hs] at this
    simpa using this
  · refine List.Nodup.sublist ?_ nd
    exact List.Sublist.append (List.Sublist.refl _) (List.sublist_append_right _ _)
  · unfold shr; rw [if_neg (dis a ha)]
    exact s.gf a (by rcases List.mem_append.mp ha with h | h <;> simp [h])
  · left; rcases List.mem_append.mp ha with h | h <;> simp [h]
  · unfold shr at q
    split at q
    · rename_i hi; exact .inr (.inl (by simp [hi]))
    · exact .inl q
theorem ok_var (K : Ctx M c Ex N sc top lvl X) {i : Nat} {x : Expr} (h : mName N sc i x = true) : Good c Ex X C (.var i) x := by
  unfold mName at h
  split at h
  · refine .plain K.hK (PE.weak (pe_name K h) fun σ H Q q => ?_) rfl rfl (fun j e => by cases e)
    obtain ⟨G, F, e, s, r⟩ := q
    simp only [ev] at r
    split at r
    · rename_i od ho
      obtain ⟨v, G', F', e1, s', st, rs⟩ := s.seal ho
      exact ⟨v, e1, rd_end s' st r rs⟩
    · exact r.elim
  · cases h
theorem ok_bv (K : Ctx M c Ex N sc top lvl X) {i : Nat} {x : Expr} (h : mName N sc i x = true) : Good c Ex X C (.bv i) x := by
  unfold mName at h
  split at h
  · refine .plain K.hK (PE.weak (pe_name K h) fun σ H Q q => ?_) rfl rfl (fun j e => by cases e; exact pe_name K h)
    obtain ⟨G, F, e, s, r⟩ := q
    simp only [ev] at r
    split at r
    · rename_i d ho
      obtain ⟨v, Fa, Fi, Fb, e1, _, ro, _⟩ := s.ren.get ho
      simp only [RO] at ro
      exact ⟨v, e1, rd_end s Step.refl r ro.1⟩
    · exact r.elim
  · cases h
theorem ok_mov (K : Ctx M c Ex N sc top lvl X) {i : Nat} {x : Expr} (h : mName N sc i x = true) : Good c Ex X C (.mov i) x := by
  unfold mName at h
  split at h
  · refine .plain K.hK (PE.weak (pe_name K h) fun σ H Q q => ?_) rfl rfl (fun j e => by cases e)
    obtain ⟨G, F, e, s, r⟩ := q
    simp only [ev] at r
    split at r
    · rename_i od ho
      obtain ⟨v, Fa, Fi, Fb, e1, rfl, ro, _, del⟩ := s.ren.get ho
      have hs : ∀ y, σ[i]? = some y → σ.set i y = σ := fun y hy => by
        apply List.ext_getElem?
        intro j
        by_cases hj : i = j
        · subst hj
          obtain ⟨hl, _⟩ := List.getElem?_eq_some_iff.mp hy
          rw [List.getElem?_set_self hl, hy]
        · rw [List.getElem?_set_ne hj]
      have ren := del H G (some v) (Gle.refl _) (fun a _ o q => q)
      rw [hs _ e1] at ren
      have nd := s.nd
      have mem : ∀ a, a ∈ (Fa ++ Fb) ++ Fi → a ∈ Fa ++ (Fi ++ Fb) := fun a ha => by
        simp only [List.mem_append] at ha ⊢
        rcases ha with (h | h) | h <;> simp [h]
      have nd2 : ((Fa ++ Fb) ++ Fi).Nodup := by
        refine (List.Perm.nodup_iff ?_).mp nd
        rw [List.append_assoc]
        exact List.Perm.append_left _ (List.perm_append_comm)
      refine ⟨v, e1, r v H G (Fa ++ Fb) Fi ⟨s.sub, ren, (List.nodup_append.mp nd2).1, fun a ha => s.gf a (mem a (List.mem_append_left _ ha))⟩ (Step.refl.less mem) ro nd2 fun a ha => s.gf a (mem a (List.mem_append_right _ ha))⟩
    · exact r.elim
  · cases h
theorem ok_const (K : Ctx M c Ex N sc top lvl X) {a : ME} {P : Const → Bool} {x : Expr} (h : mConst P x = true) (d : D) (v : V) (he : ∀ e, ev C a e = .ok (.s d) e) (hr : ∀ G, RS c G d v) (hb : ∀ i, a ≠ .bv i)
    (hp : ∀ k j pos, P k = true → PE X (.Constant k j pos) (tC v)) : Good c Ex X C a x := by
  unfold mConst at h
  split at h
  · rename_i k j pos
    refine .plain K.hK (PE.weak (hp _ _ _ h) fun σ H Q q => ?_) rfl rfl (fun j e => absurd e (hb j))
    obtain ⟨G, F, e, s, r⟩ := q
    rw [he] at r
    exact rd_end s Step.refl r (hr G)
  · cases h
/-! a method that changes nothing -/
theorem ev_mth {p : PM} {a b : ME} : ev C (.mth p a b) = fun e => (MW.opd a (ev C a) e).bind fun a e => match a.res e with
    | some d => if pmTy p d = true then (MW.opd b (ev C b) e).bind fun b e => match a.res e, b.res e with
      | some a, some b => .opt (pmSem p a b) e
      | _, _ => .bad
      else .bad
    | none => .bad := by
  funext e; rfl
theorem ok_mth (K : Ctx M c Ex N sc top lvl X) {p : PM} {a b : ME} {ra rb : Expr → Bool} (hra : ∀ y, ra y = true → Good c Ex X C a y ∧ noSup y = true) (hrb : ∀ y, rb y = true → Good c Ex X C b y) {x : Expr} (h : mMth p ra rb x = true) :
    Good c Ex X C (.mth p a b) x := by
  unfold mMth at h
  split at h
  · rename_i y m apos z pos
    simp only [Bool.and_eq_true, decide_eq_true_eq] at h
    obtain ⟨⟨⟨hm, hl⟩, ha⟩, hb⟩ := h
    obtain ⟨ga, sup⟩ := hra _ ha
    have gb := hrb _ hb
    cases p
    · subst hm
      refine .plain K.hK (PE.weak (pe_join ga.opd gb.opd (by rw [star_cons gb.ns]; rfl) (base_noSup sup) hl) fun σ H Q h => ?_) rfl rfl (fun i e => by cases e)
      rw [ev_mth] at h
      obtain ⟨G, F, e, s, h⟩ := h
      refine (rd_at (rep1 := repP c) s Step.refl h).imp fun v H1 q => ?_
      obtain ⟨G1, F1, Fr1, e1, o, s1, _, st1, rp1, nd1, fr1, q, _⟩ := q
      have hf : Fr1 = [] := by cases o <;> exact rp1.1
      subst hf
      simp only [List.append_nil] at st1
      split at q
      · rename_i d hd
        split at q
        · rename_i hty
          have t1 := opd_top s1 (Gle.refl _) rp1 hd
          cases d <;> simp [pmTy] at hty
          rename_i z
          obtain rfl := t1.str
          refine ⟨⟨_, rfl⟩, (rd_at (rep1 := repP c) s1 st1 q).imp fun v2 H2 q => ?_⟩
          obtain ⟨G2, F2, Fr2, e2, o2, s2, g2, st2, rp2, nd2, fr2, q, _⟩ := q
          have hf : Fr2 = [] := by cases o2 <;> exact rp2.1
          subst hf
          simp only [List.append_nil] at st2
          split at q
          · rename_i d1 d2 h1 h2
            have t1 := opd_top s2 g2.gle rp1 h1
            have t2 := opd_top s2 (Gle.refl _) rp2 h2
            cases d1 <;> simp only [pmSem] at q <;> try exact q.elim
            rename_i z'
            have ez := t1.str
            cases ez
            cases q1 : isq d2 with
            | none => rw [q1] at q; exact q.elim
            | some l =>
              rw [q1] at q
              simp only [Option.bind_some] at q
              obtain ⟨a, xs, rfl, sq, rs⟩ := t2.seq s2.sub q1
              cases q2 : asStrs l with
              | none => rw [q2] at q; exact q.elim
              | some ys =>
                rw [q2] at q
                simp only [Option.bind_some] at q
                split at q
                · rename_i hz
                  obtain rfl := rs.strs q2
                  exact ⟨z, a, ys, rfl, rfl, by rw [K.hK]; exact sq, hz, rd_end s2 st2 q (rsStr _)⟩
                · exact q.elim
          · exact q.elim
        · exact q.elim
      · exact q.elim
    · subst hm
      refine .plain K.hK (PE.weak (pe_tix ga.opd gb.opd (by rw [star_cons gb.ns]; rfl) (base_noSup sup) hl) fun σ H Q h => ?_) rfl rfl (fun i e => by cases e)
      rw [ev_mth] at h
      obtain ⟨G, F, e, s, h⟩ := h
      refine (rd_at (rep1 := repP c) s Step.refl h).imp fun v H1 q => ?_
      obtain ⟨G1, F1, Fr1, e1, o, s1, _, st1, rp1, nd1, fr1, q, _⟩ := q
      have hf : Fr1 = [] := by cases o <;> exact rp1.1
      subst hf
      simp only [List.append_nil] at st1
      split at q
      · rename_i d hd
        split at q
        · rename_i hty
          have t1 := opd_top s1 (Gle.refl _) rp1 hd
          cases d <;> simp [pmTy] at hty
          rename_i k l
          have t1' : RS c G1 (.obj k l) v := t1
          simp only [RS] at t1'
          obtain ⟨a1, fs, ob, rfl, g1, hd1, rf⟩ := t1'
          refine ⟨⟨a1, ob, _, rfl, s1.sub.frz g1, hd1⟩, (rd_at (rep1 := repP c) s1 st1 q).imp fun v2 H2 q => ?_⟩
          obtain ⟨G2, F2, Fr2, e2, o2, s2, g2, st2, rp2, nd2, fr2, q, _⟩ := q
          have hf : Fr2 = [] := by cases o2 <;> exact rp2.1
          subst hf
          simp only [List.append_nil] at st2
          split at q
          · rename_i d1 d2 h1 h2
            have t1 := opd_top s2 g2.gle rp1 h1
            have t2 := opd_top s2 (Gle.refl _) rp2 h2
            cases d1 <;> simp only [pmSem] at q <;> try exact q.elim
            rename_i k' l'
            have t1' : RS c G2 (.obj k' l') (.ref a1) := t1
            simp only [RS] at t1'
            obtain ⟨a2, fs2, ob2, ea, g3, hd2, rf2⟩ := t1'
            cases ea
            cases d2 <;> try exact q.elim
            rename_i i
            obtain rfl := t2.int
            dsimp only at q
            cases q1 : asInts (l'.map fun p => p.2) with
            | none => rw [q1] at q; exact q.elim
            | some ns =>
              rw [q1] at q
              simp only [Option.bind_some] at q
              split at q
              · rename_i hm
                have ei := rf2.vals.ints q1
                rw [ei] at g3
                exact ⟨a1, ob2, ns, i, rfl, rfl, s2.sub.frz g3, hm, rd_end s2 st2 q (rsInt _)⟩
              · exact q.elim
          · exact q.elim
        · exact q.elim
      · exact q.elim
  · cases h
end
end MW
namespace MW
open L2 PyProof.Rows PySem.Spec PySem
section
variable {c : RC} {Ex : XK} {X : Cx} {M : Mo} {N : List Str} {sc : Scope} {top : Bool} {lvl : Nat} {C : CallS}
theorem OD.boo_some {od : OD} {k : Bool} (h : od.boo = some k) : od = .s (.bl k) := by
  unfold OD.boo at h
  split at h
  · cases h; rfl
  · cases h
theorem repS_bl {σ : L2.St} {H G : Hp} {od : OD} {v : V} {F : List Addr} {k : Bool} (h : repS c σ H G od v F) (e : od = .s (.bl k)) : F = [] ∧ v = .bl k := by
  obtain ⟨h1, h2⟩ := h
  subst e
  simp only [OD.toD, RS] at h2
  exact ⟨h1, h2⟩
/-! a chain of two comparisons -/
theorem ev_chain {p q : P2} {a b d : ME} : ev C (.chain p q a b d) = fun e => (ev C a e).bind fun a e => (ev C b e).bind fun b e => match (p2Sem p a.toD b.toD).bind OD.boo with
    | some true => (ev C d e).bind fun c e => .opt (p2Sem q b.toD c.toD) e
    | some false => .ok (.s (.bl false)) e
    | none => .bad := by
  funext e; rfl
theorem fin_opt {σ : L2.St} {H HB GB G : Hp} {F FB : List Addr} {e : Env} {o : Option OD} {Q : VK} (s : SIM c σ H G F e) (st : Step HB GB FB H G F) (h : rdB c Ex HB GB FB (repO c) (.opt o e) σ Q) : PostO c H G o Q := by
  cases o with
  | none => exact h.elim
  | some od =>
    intro v H1 G1 Fr g ro
    obtain ⟨s1, st1, nd1, fr1⟩ := s.grow g
    exact h v H1 G1 F Fr s1 (st.trans st1) ro nd1 fr1
theorem wCh {p q : P2} {a b d : ME} {o1 : CmpOp} (hp : p2Cmp p = some o1) {σ : L2.St} {H : Hp} {Q : VK} (h : rdX c Ex (repO c) (ev C (.chain p q a b d)) σ H Q) :
    tChain (rP2 c p) (rP2 c q) (rdX c Ex (repS c) (ev C a)) (rdX c Ex (repS c) (ev C b)) (rdX c Ex (repS c) (ev C d)) σ H Q := by
  rw [ev_chain] at h
  obtain ⟨G, F, e, s, h⟩ := h
  refine (rd_at (rep1 := repS c) s Step.refl h).imp fun v H1 r => ?_
  obtain ⟨G1, F1, Fr1, e1, o, s1, _, st1, ⟨rfl, rp1⟩, nd1, fr1, r, _⟩ := r
  simp only [List.append_nil] at st1
  refine (rd_at (rep1 := repS c) s1 st1 r).imp fun v2 H2 r => ?_
  obtain ⟨G2, F2, Fr2, e2, o2, s2, g2, st2, ⟨rfl, rp2⟩, nd2, fr2, r, _⟩ := r
  simp only [List.append_nil] at st2
  have t1 : RT c H2 G2 o.toD v := (rp1.mono g2.gle).top s2.sub
  have t2 : RT c H2 G2 o2.toD v2 := rp2.top s2.sub
  refine ⟨G2, o.toD, o2.toD, s2.sub, t1, t2, ?_⟩
  cases q1 : p2Sem p o.toD o2.toD with
  | none => rw [q1] at r; exact r.elim
  | some od =>
    obtain ⟨k, rfl⟩ := p2_bool hp q1
    rw [q1] at r
    intro w H3 G3 Fr3 g ro
    simp only [RO, RS] at ro
    obtain ⟨rfl, rfl⟩ := ro
    obtain ⟨s3, st3, nd3, fr3⟩ := s2.grow g
    simp only [List.append_nil] at st3
    refine ⟨k, rfl, ?_⟩
    cases k with
    | false => exact iteF (rd_end s3 (st2.trans st3) r (rsBl _))
    | true =>
      refine iteT ((rd_at (rep1 := repS c) s3 (st2.trans st3) r).imp fun v4 H4 r => ?_)
      obtain ⟨G4, F4, Fr4, e4, o4, s4, g4, st4, ⟨rfl, rp4⟩, nd4, fr4, r, _⟩ := r
      simp only [List.append_nil] at st4
      exact ⟨G4, o2.toD, o4.toD, s4.sub, (rp2.mono (st3.gle.trans g4.gle)).top s4.sub, rp4.top s4.sub, fin_opt s4 st4 r⟩
theorem ev_chain_ok {p q : P2} {a b d : ME} {e e' : Env} {od : OD} {o2 : CmpOp} (hq : p2Cmp q = some o2) (h : ev C (.chain p q a b d) e = .ok od e') : ∃ k, od = .s (.bl k) := by
  rw [ev_chain] at h
  dsimp only at h
  cases h1 : ev C a e with
  | ok o e1 =>
    rw [h1] at h
    simp only [Out.bind] at h
    cases h2 : ev C b e1 with
    | ok o2 e2 =>
      rw [h2] at h
      simp only at h
      split at h
      · cases h3 : ev C d e2 with
        | ok o3 e3 =>
          rw [h3] at h
          simp only [Out.opt] at h
          split at h
          · rename_i q1; cases h; exact p2_bool hq q1
          · cases h
        | exc k e2 => rw [h3] at h; cases h
        | bad => rw [h3] at h; cases h
      · cases h; exact ⟨_, rfl⟩
      · cases h
    | exc k e2 => rw [h2] at h; cases h
    | bad => rw [h2] at h; cases h
  | exc k e1 => rw [h1] at h; cases h
  | bad => rw [h1] at h; cases h
theorem ok_ch (K : Ctx M c Ex N sc top lvl X) {p q : P2} {a b d : ME} {ra rb rc : Expr → Bool} (hra : ∀ y, ra y = true → Good c Ex X C a y) (hrb : ∀ y, rb y = true → Good c Ex X C b y) (hrc : ∀ y, rc y = true → Good c Ex X C d y) {x : Expr} (h : mCh p q ra rb rc x = true) :
    Good c Ex X C (.chain p q a b d) x := by
  unfold mCh at h
  split at h
  · rename_i y o1 o2 z w pos
    simp only [Bool.and_eq_true, decide_eq_true_eq, Bool.not_eq_true'] at h
    obtain ⟨⟨⟨⟨⟨⟨hp, hq⟩, m1⟩, m2⟩, ha⟩, hb⟩, hc⟩ := h
    have hm : lastMarks [o1, o2] [z, w] = false := m2
    exact .cmp (pe_chain (op_cmp K hp) (op_cmp K hq) (hra _ ha).S (hrb _ hb).S (hrc _ hc).S hm) (pt_chain (op_cmp K hp) (op_cmp K hq) (hra _ ha).S (hrb _ hb).S (hrc _ hc).S hm) (fun σ H Q h => wCh hp h)
      (fun e od e' r => ev_chain_ok hq r) rfl (fun _ _ _ e => by cases e) (fun _ e => by cases e)
  · cases h
/-! and, or, not, if else -/
theorem ev_and {a b : ME} : ev C (.and2 a b) = fun e => (ev C a e).bind fun a e => match a.boo with
    | some true => ev C b e
    | some false => .ok (.s (.bl false)) e
    | none => .bad := by
  funext e; rfl
theorem ev_or {a b : ME} : ev C (.or2 a b) = fun e => (ev C a e).bind fun a e => match a.boo with
    | some true => .ok (.s (.bl true)) e
    | some false => ev C b e
    | none => .bad := by
  funext e; rfl
theorem ev_not {a : ME} : ev C (.not1 a) = fun e => (ev C a e).bind fun a e => match a.boo with
    | some b => .ok (.s (.bl !b)) e
    | none => .bad := by
  funext e; rfl
theorem ev_ife {d a b : ME} : ev C (.ife d a b) = fun e => (ev C d e).bind fun c e => match c.boo with
    | some true => ev C a e
    | some false => ev C b e
    | none => .bad := by
  funext e; rfl
theorem repB_t {σ : L2.St} {H G : Hp} {a b : Bool} {F : List Addr} (h : repB σ H G a b F) : F = [] ∧ a = b := h
theorem boo_tru {od : OD} {k : Bool} (h : od.boo = some k) : truD od.toD = some k := by rw [OD.boo_some h]; rfl
theorem bind_assoc' {α β γ : Type} (x : Out α) (f : α → Env → Out β) (g : β → Env → Out γ) : (x.bind f).bind g = x.bind fun a e => (f a e).bind g := by cases x <;> rfl
/-- a test, then what hangs on it -/
theorem tst_at {γ δ : Type} {rep : Rep γ δ} {f : Env → Out OD} {g : OD → Env → Out γ} {σ : L2.St} {H HB GB G : Hp} {F FB : List Addr} {e : Env} {Q : δ → Hp → Prop} (s : SIM c σ H G F e) (st : Step HB GB FB H G F)
    (h : rdB c Ex HB GB FB rep ((f e).bind g) σ Q) (hb : ∀ od e1, g od e1 ≠ .bad → ∃ k, od.boo = some k) :
    rdX c Ex repB (tst f) σ H (fun k H1 => ∃ G1 F1 e1 od, SIM c σ H1 G1 F1 e1 ∧ Step HB GB FB H1 G1 F1 ∧ od.boo = some k ∧ rdB c Ex HB GB FB rep (g od e1) σ Q) := by
  refine ⟨G, F, e, s, ?_⟩
  revert h
  simp only [tst]
  cases f e with
  | ok od e1 =>
    intro r
    simp only [Out.bind] at r ⊢
    by_cases hg : g od e1 = .bad
    · rw [hg] at r; exact r.elim
    · obtain ⟨k, hk⟩ := hb od e1 hg
      rw [boo_tru hk]
      intro b H1 G1 F1 Fr1 s1 st1 rp nd fr
      obtain ⟨rfl, rfl⟩ := repB_t rp
      simp only [List.append_nil] at st1
      exact ⟨G1, F1, e1, od, s1, st.trans st1, hk, r⟩
  | exc k e1 => exact fun r H1 G1 F1 s1 st1 => r H1 G1 F1 s1 (st.trans st1)
  | bad => exact fun r => r
theorem ok_bool (K : Ctx M c Ex N sc top lvl X) {op : BoolOp} {ab a b : ME} (hab : ab = match op with | .And => .and2 a b | .Or => .or2 a b) {ra rb : Expr → Bool} (hra : ∀ y, ra y = true → Good c Ex X C a y) (hrb : ∀ y, rb y = true → Good c Ex X C b y) {x : Expr} (h : mBool op ra rb x = true) :
    Good c Ex X C ab x := by
  unfold mBool at h
  split at h
  · rename_i o y z r pos
    simp only [Bool.and_eq_true, decide_eq_true_eq] at h
    obtain ⟨⟨rfl, ha⟩, hb⟩ := h
    have ga := hra _ ha
    have gb : PE X (.BoolOp o (z :: r) pos) (rdX c Ex (repO c) (ev C b)) ∧ PW X (.BoolOp o (z :: r) pos) (rdX c Ex repB (tst (ev C b))) := by
      cases r with
      | nil =>
        have g := hrb _ hb
        refine ⟨pe_one g.pe, ?_⟩
        cases o
        · exact pw_and1 g.pt
        · exact pw_or1 g.pt
      | cons w r =>
        have g := hrb _ hb
        exact ⟨g.pe, g.pw _ _ _ rfl⟩
    cases o
    · subst hab
      have pw : PW X (.BoolOp .And (y :: z :: r) pos) (rdX c Ex repB (tst (ev C (.and2 a b)))) := by
        refine PW.weak (pw_and ga.pt gb.2) fun σ H Q h => ?_
        obtain ⟨G, F, e, s, h⟩ := h
        simp only [tst, ev_and, bind_assoc'] at h
        refine (tst_at s Step.refl h fun od e1 hn => ?_).imp fun k H1 q => ?_
        · cases q : od.boo with
          | none => rw [q] at hn; exact absurd rfl hn
          | some k => exact ⟨k, rfl⟩
        · obtain ⟨G1, F1, e1, od, s1, st1, hk, q⟩ := q
          rw [hk] at q
          cases k with
          | true => exact iteT (rd_go s1 st1 q)
          | false => exact iteF (rd_endB s1 st1 q)
      refine ⟨PE.weak (pe_and ga.S gb.1) fun σ H Q h => ?_, pw.pt, fun i e => (by cases e), fun op vs p e => (by cases e; exact pw), rfl⟩
      obtain ⟨G, F, e, s, h⟩ := h
      simp only [ev_and] at h
      refine (rd_at (rep1 := repS c) s Step.refl h).imp fun v H1 q => ?_
      obtain ⟨G1, F1, Fr1, e1, o, s1, _, st1, rp1, nd1, fr1, q, _⟩ := q
      cases hk : o.boo with
      | none => rw [hk] at q; exact q.elim
      | some k =>
        rw [hk] at q
        obtain ⟨rfl, rfl⟩ := repS_bl rp1 (OD.boo_some hk)
        simp only [List.append_nil] at st1
        refine ⟨k, rfl, ?_⟩
        cases k with
        | true => exact iteT (rd_go s1 st1 q)
        | false => exact iteF (rd_end s1 st1 q (rsBl _))
    · subst hab
      have pw : PW X (.BoolOp .Or (y :: z :: r) pos) (rdX c Ex repB (tst (ev C (.or2 a b)))) := by
        refine PW.weak (pw_or ga.pt gb.2) fun σ H Q h => ?_
        obtain ⟨G, F, e, s, h⟩ := h
        simp only [tst, ev_or, bind_assoc'] at h
        refine (tst_at s Step.refl h fun od e1 hn => ?_).imp fun k H1 q => ?_
        · cases q : od.boo with
          | none => rw [q] at hn; exact absurd rfl hn
          | some k => exact ⟨k, rfl⟩
        · obtain ⟨G1, F1, e1, od, s1, st1, hk, q⟩ := q
          rw [hk] at q
          cases k with
          | false => exact iteF (rd_go s1 st1 q)
          | true => exact iteT (rd_endB s1 st1 q)
      refine ⟨PE.weak (pe_or ga.S gb.1) fun σ H Q h => ?_, pw.pt, fun i e => (by cases e), fun op vs p e => (by cases e; exact pw), rfl⟩
      obtain ⟨G, F, e, s, h⟩ := h
      simp only [ev_or] at h
      refine (rd_at (rep1 := repS c) s Step.refl h).imp fun v H1 q => ?_
      obtain ⟨G1, F1, Fr1, e1, o, s1, _, st1, rp1, nd1, fr1, q, _⟩ := q
      cases hk : o.boo with
      | none => rw [hk] at q; exact q.elim
      | some k =>
        rw [hk] at q
        obtain ⟨rfl, rfl⟩ := repS_bl rp1 (OD.boo_some hk)
        simp only [List.append_nil] at st1
        refine ⟨k, rfl, ?_⟩
        cases k with
        | false => exact iteF (rd_go s1 st1 q)
        | true => exact iteT (rd_end s1 st1 q (rsBl _))
  · cases h
theorem ok_not (K : Ctx M c Ex N sc top lvl X) {a : ME} {ra : Expr → Bool} (hra : ∀ y, ra y = true → Good c Ex X C a y) {x : Expr} (h : mNot ra x = true) : Good c Ex X C (.not1 a) x := by
  unfold mNot at h
  split at h
  · rename_i y pos
    have ga := hra _ h
    refine ⟨PE.weak (pe_not ga.S) fun σ H Q h => ?_, PT.weak (pt_not ga.pt) fun σ H Q h => ?_, fun i e => (by cases e), fun op vs p e => (by cases e), rfl⟩
    · obtain ⟨G, F, e, s, h⟩ := h
      simp only [ev_not] at h
      refine (rd_at (rep1 := repS c) s Step.refl h).imp fun v H1 q => ?_
      obtain ⟨G1, F1, Fr1, e1, o, s1, _, st1, rp1, nd1, fr1, q, _⟩ := q
      cases hk : o.boo with
      | none => rw [hk] at q; exact q.elim
      | some k =>
        rw [hk] at q
        obtain ⟨rfl, rfl⟩ := repS_bl rp1 (OD.boo_some hk)
        simp only [List.append_nil] at st1
        exact ⟨k, rfl, rd_end s1 st1 q (rsBl _)⟩
    · obtain ⟨G, F, e, s, h⟩ := h
      simp only [tst, ev_not, bind_assoc'] at h
      refine (tst_at s Step.refl h fun od e1 hn => ?_).imp fun k H1 q => ?_
      · cases q : od.boo with
        | none => rw [q] at hn; exact absurd rfl hn
        | some k => exact ⟨k, rfl⟩
      · obtain ⟨G1, F1, e1, od, s1, st1, hk, q⟩ := q
        rw [hk] at q
        exact rd_endB s1 st1 q
  · cases h
theorem ok_ife (K : Ctx M c Ex N sc top lvl X) {d a b : ME} {rd ra rb : Expr → Bool} (hrd : ∀ y, rd y = true → Good c Ex X C d y) (hra : ∀ y, ra y = true → Good c Ex X C a y) (hrb : ∀ y, rb y = true → Good c Ex X C b y) {x : Expr} (h : mIfe rd ra rb x = true) :
    PE X x (rdX c Ex (repO c) (ev C (.ife d a b))) := by
  unfold mIfe at h
  split at h
  · rename_i t y z pos
    simp only [Bool.and_eq_true] at h
    obtain ⟨⟨hd, ha⟩, hb⟩ := h
    refine PE.weak (pe_ifExp (hrd _ hd).pt (hra _ ha).pe (hrb _ hb).pe) fun σ H Q h => ?_
    obtain ⟨G, F, e, s, h⟩ := h
    simp only [ev_ife] at h
    refine (tst_at s Step.refl h fun od e1 hn => ?_).imp fun k H1 q => ?_
    · cases q : od.boo with
      | none => rw [q] at hn; exact absurd rfl hn
      | some k => exact ⟨k, rfl⟩
    · obtain ⟨G1, F1, e1, od, s1, st1, hk, q⟩ := q
      rw [hk] at q
      cases k with
      | true => exact iteT (rd_go s1 st1 q)
      | false => exact iteF (rd_go s1 st1 q)
  · cases h
end
end MW
namespace MW
open L2 PyProof.Rows PySem.Spec PySem L2H
/-! ### a def that is called with the exception that is handled -/
structure FnW (P : Program) (w : World) (K : PySem.W.Frag) (mg : Str → Option Value) (base : Heap) (CT : CXT) (k : Nat) (f : Addr) (fd : FuncData) (ps : List Str) (R : Addr × Obj → Sp) : Prop where
  ln : ∀ p vs H Q E, R p vs H Q E → vs.length = ps.length
  rn : ∀ (A : Around) (ou : List PySem.Env) (s : Shared) (H : Hp) (ar : Args) (us : List Value) (vs : List V) (Q : VK) (E : XK) (p : Addr × Obj), RoomH k A → Hot1 A p → PinOk ou H s p → Env0 P w K mg base A ou s H → BindsTo s fd ar (ps.zip us) → Vals vs us →
    R p vs H Q E → codeAny (model P w) A (.call (.ref f) ar) (CR CT ou P w H s Q E) s
theorem fn_ofW {CT : CXT} {P : Program} {w : World} {K : PySem.W.Frag} {mg : Str → Option Value} {base : Heap} {k : Nat} {f : Addr} {x : Str} {st : Stmt} {N ps : List Str} {R : Addr × Obj → Sp} {dV kV dc pm cv ct oc : Value} {an od : Option Addr} {sl : Array (Option Value)}
    (lk : K.lookup f = some ⟨oc, od, .func (PySem.W.fnOf x x (defArgs st) (defBody st) (defScope st) dV kV dc pm an cv ct), sl⟩) (cd : PySem.W.codeIn K cv x = true) (S : FnScope N ps (defScope st)) (ln : ∀ p vs H Q E, R p vs H Q E → vs.length = ps.length)
    (hb : ∀ (A : Around) (ou : List PySem.Env) (s : Shared) (H : Hp) (vs : List V) (Q : VK) (E : XK) (p : Addr × Obj), Hot1 A p → RoomH k (A.deeper (envOfC x (defScope st) s.heap.objs.size f cv)) → R p vs H Q E →
      ∃ t, PSs (cxH CT P w K mg base N x (defScope st) f cv A ou s H E p) (defBody st) t ∧ t { nx := fun _ H' => Q .non H', rt := Q } (L2.start N vs) H) :
    FnW P w K mg base CT (k + 1) f (PySem.W.fnOf x x (defArgs st) (defBody st) (defScope st) dV kV dc pm an cv ct) ps R := by
  refine ⟨ln, fun A ou s H ar us vs Q E p rm hot pin e0 bd rv hR => ?_⟩
  have hl := ln _ _ _ _ _ hR
  have kin : K.In s.heap := e0.mod.kin.keeps fun b o z => (e0.bs b o z).1
  have nolim : s.heap.NoLimit := e0.mod.nolimit.keeps fun b o z => (e0.bs b o z).1
  have kinds : ∀ y ∈ ps.zip us, (defScope st).names.lookup y.1 = some .local ∨ ((defScope st).names.lookup y.1 = some .cell ∧ ((cellsFrom (s.heap.objs.size + 1) (defScope st).names []).lookup y.1).isSome = true) := by
    rintro ⟨n, v⟩ hy
    rcases S.par n (List.of_mem_zip hy).1 with z | z
    · exact .inl z
    · exact .inr ⟨z, PySem.W.cellsFrom_some _ _ _ (.inl z)⟩
  refine codeAny_call_function rm.depth (kin _ _ lk) rfl S.co S.gen rfl (PySem.W.codeRec_of kin cd) (bd _ _ _ _ ?_)
  refine wpAny_newFunctionEnv_cells S.kind kinds fun env he s1 xx => ?_
  subst he
  refine ⟨nolim.keeps xx.toInCall.keep, codeAny_func ?_⟩
  obtain ⟨t, ht, hq⟩ := hb A ou s H vs Q E p hot (rm.deeper _) hR
  have I : Inv (cxH CT P w K mg base N x (defScope st) f cv A ou s H E p) [] (L2.start N vs) H s1 := inv_startH S pin e0 hl rv xx
  have fin : ∀ {σ2 : L2.St} {H2 : Hp} {v : V} {u : Value} {s2 : Shared}, Inv (cxH CT P w K mg base N x (defScope st) f cv A ou s H E p) [] σ2 H2 s2 → RelV v u → Q v H2 → CE ou P w H s Q u s2 :=
    fun {σ2 H2 v u s2} J r q => ⟨v, H2, J.os, J.bare, J.base, J.hok, r, q⟩
  refine wpAny_mono (ht.run [] s1 (L2.start N vs) H _ I hq) (fun fl s2 hs => ?_) fun _ _ z => z
  cases fl with
  | ret u => obtain ⟨v, σ2, H2, J, r, q⟩ := hs; exact fin J r q
  | next => obtain ⟨σ2, H2, J, q⟩ := hs; exact fin (v := V.non) (u := Value.none) J rfl q
  | brk => obtain ⟨_, _, _, q⟩ := hs; exact q.elim
  | cont => obtain ⟨_, _, _, q⟩ := hs; exact q.elim
section
variable {X : Cx} {CT : CXT} {k : Nat} {f : Addr} {fd : FuncData} {ps : List Str} {R : Addr × Obj → Sp} {E : XK} {p : Addr × Obj}
theorem run_fnW {pins : List (Addr × Obj)} {σ : L2.St} {H : Hp} {s : Shared} {Q : VK} {us : List Value} {vs : List V} (F : FnW X.prog X.w X.K X.mg X.base CT k f fd ps R) (rm : RoomH k X.A) (hot : Hot1 X.A p) (hp : p ∈ X.pn) (hb : Binds X.K fd ps []) (ps0 : ∀ pins σ H s e s', Inv X pins σ H s → CT X.stack H s E e s' → X.xe e s')
    (I : Inv X pins σ H s) (rv : Vals vs us) (h : R p vs H Q E) : wpAny (model X.prog X.w) X.A (call (.ref f) us) (EP X pins σ Q) X.xe s := by
  have hl : us.length = ps.length := by rw [← rv.length]; exact F.ln _ _ _ _ _ h
  have bd := hb s us I.kIn (by rw [List.append_nil]; exact hl)
  rw [List.append_nil] at bd
  have P1 := I.pin p (List.mem_append_left _ hp)
  have pk : PinOk X.stack H s p := ⟨P1.1, P1.2.1, fun z => (List.mem_cons.mp (I.stkSub p.1 z)).elim P1.2.2.1 P1.2.2.2.1, P1.2.2.2.2⟩
  refine wpAny_call (codeAny_mono (F.rn X.A X.stack s H ⟨us, []⟩ us vs Q E p rm hot pk I.env0 bd rv h) fun r s2 hq => ?_)
  cases r with
  | error e => exact ps0 pins σ H s e s2 I hq
  | ok fl =>
    cases fl with
    | ret u => exact I.after hq
    | next => exact hq.elim
    | brk => exact hq.elim
    | cont => exact hq.elim
theorem pe_callW {x : Str} {q pos : Pos} {e : Expr} {es : List Expr} {t : TA} (F : FnW X.prog X.w X.K X.mg X.base CT k f fd ps R) (rm : RoomH k X.A) (hot : Hot1 X.A p) (hp : p ∈ X.pn) (hg : Gl X x) (hm : X.mg x = some (.ref f)) (hk : PySem.W.keepIn X.K (.ref f) = true) (hb : Binds X.K fd ps [])
    (ps0 : ∀ pins σ H s e s', Inv X pins σ H s → CT X.stack H s E e s' → X.xe e s') (ha : PA X (e :: es) t) (hd : (x == ("__debug__" : Str)) = false) (he : starEach (e :: es) X.env = (false, eval e X.env) :: starEach es X.env) (hpl : (backTo pos (starEach es X.env)).any (·.1) = false) :
    PE X (.Call (.Name x q) (e :: es) [] pos) (fun σ H Q => t σ H fun vs H1 => R p vs H1 Q E) := by
  refine ⟨fun pins s σ H Q I h => ?_⟩
  refine wpAny_Call_Name_kw (ld_glob I hg hm ?_ hd)
  refine PySem.W.callWith_K (h₀ := X.base) I.ok.mod.kin hk (thn (ha.run pos pins s σ H _ I h) fun us s2 ⟨vs, H1, I1, r, q2⟩ => ⟨I1.kIn, ?_⟩) he hpl
  exact run_fnW F rm hot hp hb ps0 I1 r q2
end
end MW
set_option maxHeartbeats 1000000
namespace MW
open L2 PyProof.Rows PySem.Spec PySem L2H
/-! ### a list comprehension over range where an exception is handled -/
section
variable {X : Cx} {p : Addr × Obj}
theorem lcH_core {pins : List (Addr × Obj)} {s : Shared} {σ : L2.St} {H : Hp} {Q : VK} {el tg itr : Expr} {ifs : List Expr} {scp : Scope} {own : List (Str × Nat)} {pos pos2 : Pos} {wi : TI} {g : TG} {tt : TT} {te : TE} {us : Option (Value → Sem Unit)} {Qf : Value → Shared → Prop}
    (hot : Hot1 X.A p) (hp : p ∈ X.pn) (nd : X.N.Nodup) (I : Inv X pins σ H s) (hi : PIH X tg itr wi) (ok : BlkOk X.N X.env.scope scp own)
    (hg : ∀ (s : Shared) (H : Hp) (C : Addr) (cl : List (Str × Addr)) (fp : List Addr), PG (X.blk s H scp (compEnvC scp cl C X.env) fp) tg g)
    (ht : ∀ (s : Shared) (H : Hp) (C : Addr) (cl : List (Str × Addr)) (fp : List Addr), PTs (X.blk s H scp (compEnvC scp cl C X.env) fp) ifs tt)
    (he : ∀ (s : Shared) (H : Hp) (C : Addr) (cl : List (Str × Addr)) (fp : List Addr), PE (X.blk s H scp (compEnvC scp cl C X.env) fp) el te)
    (hs : ∀ x, foldedSetIterable itr X.env x = pure x) (h : tLc wi g tt te (own.map (·.2)) σ H Q)
    (hR : ∀ D C s2 m H2, Inv X pins σ H2 s2 → Q (.ref D) H2 → s2.heap.Ns C m → FpOk X pins H2 C → compPost (model X.prog X.w) X.A X.xe us Qf (.ref D) C (.ok .next) s2) :
    wpAny (model X.prog X.w) X.A (comprehension (.ListComp el [⟨tg, itr, ifs, 0⟩] scp pos) scp X.env pos2 (newList []) false (eval itr X.env) us) Qf X.xe s := by
  have frees : ∀ y ∈ scp.names, y.2 = .free → ∃ c, X.env.cells.lookup y.1 = some c := fun y hy z => (ok.free y hy z).elim (fun k => I.ok.has _ (.inl k)) fun k => I.ok.has _ (.inr k)
  refine wpAny_comprehension_free (use := us) rfl hs (closure_ok frees) ok.kind (fun y hy z => by rw [ok.uniq y hy, z]) (thn (hi.run pins s σ H _ I h) fun xv sa hx => thn hx fun iv sb hb => ?_)
  obtain ⟨it, fp, tn, J, H2, e0, I2, T, st2, f2, q⟩ := hb
  subst e0
  refine wpAny_newObj_type (newEnv_comp ?_) (Nat.zero_le _)
  generalize hD : sb.heap.objs.size = D
  obtain ⟨W, ⟨m0, w0⟩, turn⟩ := q D (I2.hok.fresh (Nat.le_of_eq hD))
  generalize hsc : ({ sb with heap := sb.heap.push { cls := .type "list", data := .seq ([] : List Value).toArray } } : Shared) = sc
  have I3 : Inv X pins σ (upd H2 D (.lst [])) sc := by
    rw [← hsc]
    refine I2.laid (t' := sb.toks) (fun b o z => Heap.get?_push_of_some _ z) (Nat.le_of_eq hD) ⟨Nat.zero_le _, [], 0, .nil, ?_⟩
    rw [← hD]; exact Heap.get?_push_size _ rfl
  have hh : sc.heap = sb.heap.push { cls := .type "list", data := .seq ([] : List Value).toArray } := by rw [← hsc]
  have lt : ∀ b ∈ fp, b < sb.heap.objs.size := fun b hb => by obtain ⟨o, z, _⟩ := T.obj _ _ st2 b hb; exact Heap.lt_size z
  have f3 : ∀ b ∈ fp, FpOk X pins (upd H2 D (.lst [])) b ∧ b < sc.heap.objs.size := fun b hb => by
    refine ⟨⟨?_, (f2 b hb).2⟩, by rw [hh, Heap.size_push]; exact Nat.lt_succ_of_lt (lt b hb)⟩
    rw [upd_ne (by rw [← hD]; exact Nat.ne_of_lt (lt b hb))]; exact (f2 b hb).1
  have np : ∀ b ∈ fp, p.1 ≠ b := fun b hb => (f2 b hb).2.2.2.2.2 p (List.mem_append_left _ hp)
  have st3 : tn 0 sc.heap := T.keep _ _ _ st2 fun b _ o z => by rw [hh]; exact Heap.get?_push_of_some _ z
  have Ip := I3.pin p (List.mem_append_left _ hp)
  have pst : p.1 ∉ frs X.stack := fun z => (List.mem_cons.mp (I3.stkSub p.1 z)).elim Ip.2.2.1 Ip.2.2.2.1
  have pcl : ∀ v, p.2.data ≠ .cell v := Ip.2.2.2.2
  have plt : p.1 < sc.heap.objs.size := Heap.lt_size Ip.1
  have I4a := block_start I3 ok nd f3
  have pg := hg sc (upd H2 D (.lst [])) sc.heap.objs.size (cellsFrom (sc.heap.objs.size + 1) scp.names (cloFrom X.env.cells scp.names [])) fp
  have pt := ht sc (upd H2 D (.lst [])) sc.heap.objs.size (cellsFrom (sc.heap.objs.size + 1) scp.names (cloFrom X.env.cells scp.names [])) fp
  have pe := he sc (upd H2 D (.lst [])) sc.heap.objs.size (cellsFrom (sc.heap.objs.size + 1) scp.names (cloFrom X.env.cells scp.names [])) fp
  show codeAny _ _ (.compStart (.ListComp el [⟨tg, itr, ifs, 0⟩] scp pos) 0 (.ref it) (.ref D) (compEnvC scp (cellsFrom (sc.heap.objs.size + 1) scp.names (cloFrom X.env.cells scp.names [])) sc.heap.objs.size X.env)) (compPost (model X.prog X.w) X.A X.xe us Qf (.ref D) sc.heap.objs.size) { sc with heap := pushCells (sc.heap.push { cls := .type "dict", data := .dict #[] }) scp.names }
  have nf : ∀ b ∈ fp, (upd H2 D (.lst [])) b = none := fun b hb => (f3 b hb).1.1
  have kp : ∀ b o, sc.heap.get? b = some o → (pushCells (sc.heap.push { cls := .type "dict", data := .dict #[] }) scp.names).get? b = some o := fun b o z => pushCells_keeps _ _ _ _ (Heap.get?_push_of_some _ z)
  generalize hce : compEnvC scp (cellsFrom (sc.heap.objs.size + 1) scp.names (cloFrom X.env.cells scp.names [])) sc.heap.objs.size X.env = ce at I4a pg pt pe ⊢
  have cL : ce.locals = sc.heap.objs.size := by subst hce; rfl
  generalize hH3 : upd H2 D (.lst []) = H3 at I3 I4a pg pt pe w0 nf f3 Ip
  generalize hsd : ({ sc with heap := pushCells (sc.heap.push { cls := .type "dict", data := .dict #[] }) scp.names } : Shared) = sd at I4a ⊢
  -- the block's states bear p
  have I4 : Inv (X.blk sc H3 scp ce fp) [p] (wipe σ (own.map (·.2))) H3 sd := ⟨I4a.ok, I4a.os, I4a.bare, I4a.base, I4a.loc, I4a.cell, I4a.free, I4a.freeC, fun z hz => by
    have hz : z ∈ ([] : List (Addr × Obj)) ++ [p] := hz
    rw [List.nil_append, List.mem_singleton] at hz
    subst hz
    refine ⟨by rw [← hsd]; exact kp _ _ Ip.1, Ip.2.1, ?_, pst, pcl⟩
    show z.1 ≠ ce.locals
    rw [cL]; exact Nat.ne_of_lt plt, I4a.hok, I4a.len⟩
  have st4 : tn 0 sd.heap := T.keep _ _ _ st3 fun b _ o z => by rw [← hsd]; exact kp _ _ z
  have okB := I4.ok
  have hz : HotC ((X.blk sc H3 scp ce fp).tr ([] ++ [p]) fun _ _ => False) := ⟨p, hot, by simp⟩
  have stat : ∀ {σ5 : L2.St} {H5 : Hp} {s5 : Shared}, Inv (X.blk sc H3 scp ce fp) [p] σ5 H5 s5 → (∀ b ∈ fp, H5 b = none) → ∀ b ∈ fp, FpOk (X.blk sc H3 scp ce fp) [p] H5 b := fun {σ5 H5 s5} J hn b hb =>
    ⟨hn b hb, (J.ok.exf b hb).1, J.ok.exfs b hb, .inl hb, fun x c z => (J.ok.exf b hb).2 x c z, fun y hy => by
      have hy : y ∈ ([] : List (Addr × Obj)) ++ [p] := hy
      rw [List.nil_append, List.mem_singleton] at hy
      subst hy
      exact np b hb⟩
  have loop : codeAny (model X.prog X.w) X.A (.compLoop (.ListComp el [⟨tg, itr, ifs, 0⟩] scp pos) 0 (.ref it) (.ref D) ce) (compPost (model X.prog X.w) X.A X.xe us Qf (.ref D) sc.heap.objs.size) sd := by
    refine compLoop_any (fun n s5 => ∃ i H5, Inv (X.blk sc H3 scp ce fp) [p] (wipe σ (own.map (·.2))) H5 s5 ∧ tn i s5.heap ∧ (∀ b ∈ fp, H5 b = none) ∧ W i n H5) ?_ m0 ⟨0, H3, I4, st4, nf, w0⟩
    rintro n s5 ⟨i, H5, I5, st5, n5, w5⟩
    have I5t : Inv ((X.blk sc H3 scp ce fp).tr ([] ++ [p]) fun _ _ => False) [] _ H5 s5 := I5.toTry _
    have f5 : ∀ b ∈ fp, FpOk ((X.blk sc H3 scp ce fp).tr ([] ++ [p]) fun _ _ => False) [] H5 b := fun b hb => by
      obtain ⟨a1, a2, a3, a4, a5, a6⟩ := stat I5 n5 b hb
      exact ⟨a1, a2, a3, a4, a5, fun y hy => a6 y (by simpa using hy)⟩
    rcases turn i n H5 w5 with ⟨stop, qq⟩ | ⟨go, Nx, hNx, step⟩
    · have td := T.done ((X.blk sc H3 scp ce fp).tr ([] ++ [p]) fun _ _ => False) rfl rfl rfl hz i [] s5 _ H5 (fun _ _ => False) I5t f5 st5 stop
      refine thnF td fun r s6 ⟨hr, I6t⟩ => ?_
      subst hr
      have I6 : Inv (X.blk sc H3 scp ce fp) [p] _ H5 s6 := I6t.ofTry okB
      have I7 : Inv X pins σ H5 s6 := I3.call' (ch := fp) I6.os I6.base I6.hok I6.bare fun b hb => ⟨(f3 b hb).1.2.2.2.1, (f3 b hb).1.2.1, (f3 b hb).1.2.2.2.2.1, (f3 b hb).1.2.2.2.2.2⟩
      have nC : H5 sc.heap.objs.size = none := by
        have z : H5 ce.locals = none := I6.free
        rw [cL] at z
        exact z
      obtain ⟨m, hn, _⟩ := I6.loc
      have hn : s6.heap.Ns ce.locals m := hn
      rw [cL] at hn
      exact hR D sc.heap.objs.size s6 m H5 I7 qq hn (I3.fpOk (Nat.le_refl _) nC)
    · have ti := T.item ((X.blk sc H3 scp ce fp).tr ([] ++ [p]) fun _ _ => False) rfl rfl rfl hz i [] s5 _ H5 (fun _ _ => False) I5t f5 st5 go
      refine thnF ti fun r s6 ⟨u, hr, h6⟩ => ?_
      subst hr
      refine thnF h6 fun _ s7 ⟨x, H7, I7t, r7, y7, st7, n7⟩ => ?_
      have I7 : Inv (X.blk sc H3 scp ce fp) [p] _ H7 s7 := I7t.ofTry okB
      have I7p := I7.pinned (stat I7 n7) (T.obj _ _ st7)
      refine thnF (pg.run _ s7 _ H7 x u _ I7p r7 (step x H7 y7)) fun _ s8 ⟨σ8, H8, I8, hw8, q8⟩ => ?_
      refine thnF (pt.run _ s8 σ8 H8 _ I8 q8) fun b s9 ⟨H9, I9, q9⟩ => ?_
      have fin : ∀ {sx : Shared} {Hx : Hp}, Inv (X.blk sc H3 scp ce fp) ([p] ++ pinsAt fp s7.heap) σ8 Hx sx → Nx Hx → ∃ m, m < n ∧ ∃ i H5, Inv (X.blk sc H3 scp ce fp) [p] (wipe σ (own.map (·.2))) H5 sx ∧ tn i sx.heap ∧ (∀ b ∈ fp, H5 b = none) ∧ W i m H5 := fun {sx Hx} Ix nx => by
        obtain ⟨m2, hm, w2⟩ := hNx Hx nx
        have pin2 : ∀ b ∈ fp, ∀ o, s7.heap.get? b = some o → sx.heap.get? b = some o ∧ Hx b = none := fun b hb o z =>
          let y := Ix.pin (b, o) (List.mem_append_right _ (List.mem_append_right _ (mem_pinsAt hb z)))
          ⟨y.1, y.2.1⟩
        have hl : (wipe σ (own.map (·.2))).length = σ8.length := by rw [← hw8, wipe_length]
        refine ⟨m2, hm, i + 1, Hx, (Ix.unpinned (pins := [p])).weak hl (fun j v z => ?_), T.keep _ _ _ st7 fun b hb o z => (pin2 b hb o z).1, fun b hb => ?_, w2⟩
        · rw [← hw8] at z
          exact (wipe_some z).1
        · obtain ⟨o, z, _⟩ := T.obj _ _ st7 b hb
          exact (pin2 b hb o z).2
      cases b with
      | false =>
        simp only [Bool.false_eq_true, if_false] at q9 ⊢
        exact fin I9 q9
      | true =>
        simp only [if_true] at q9 ⊢
        refine thnF (pe.run _ s9 σ8 H9 _ I9 q9) fun z s10 ⟨yv, H10, I10, r10, acc, hD10, hz10, nx⟩ => ?_
        exact app_ok (X := X.blk sc H3 scp ce fp) I10 hD10 hz10 r10 fun s11 I11 => fin I11 nx
  exact codeAny_compStart_list loop (T.self X.A 0 _ _ _ st4 loop)
theorem pe_lcH {el tg itr : Expr} {ifs : List Expr} {scp : Scope} {own : List (Str × Nat)} {pos : Pos} {wi : TI} {g : TG} {tt : TT} {te : TE} (hot : Hot1 X.A p) (hp : p ∈ X.pn) (nd : X.N.Nodup) (hi : PIH X tg itr wi) (ok : BlkOk X.N X.env.scope scp own)
    (hg : ∀ (s : Shared) (H : Hp) (C : Addr) (cl : List (Str × Addr)) (fp : List Addr), PG (X.blk s H scp (compEnvC scp cl C X.env) fp) tg g)
    (ht : ∀ (s : Shared) (H : Hp) (C : Addr) (cl : List (Str × Addr)) (fp : List Addr), PTs (X.blk s H scp (compEnvC scp cl C X.env) fp) ifs tt)
    (he : ∀ (s : Shared) (H : Hp) (C : Addr) (cl : List (Str × Addr)) (fp : List Addr), PE (X.blk s H scp (compEnvC scp cl C X.env) fp) el te)
    (hs : ∀ x, foldedSetIterable itr X.env x = pure x) : PE X (.ListComp el [⟨tg, itr, ifs, 0⟩] scp pos) (tLc wi g tt te (own.map (·.2))) := by
  refine ⟨fun pins s σ H Q I h => ?_⟩
  rw [eval_ListComp]
  refine lcH_core hot hp nd I hi ok hg ht he hs h fun D C s2 m H2 J q hn f => ⟨m, hn, fun h3 sb => ?_⟩
  obtain ⟨f0, f1, f2, f3, f4, f5⟩ := f
  exact ⟨.ref D, H2, J.turned (t' := s2.toks) (fun b o hb z => (sb.2 b hb).trans z) f0 f1 f3 f4 f5, rfl, q⟩
/-- y = [..] on one line -/
theorem ps_setLcH {i : Nat} {y : Str} {py : Pos} {el tg itr : Expr} {ifs : List Expr} {scp : Scope} {own : List (Str × Nat)} {pos sp : Pos} {wi : TI} {g : TG} {tt : TT} {te : TE} (hot : Hot1 X.A p) (hp : p ∈ X.pn) (nd : X.N.Nodup) (hy : X.N[i]? = some y) (hyl : X.env.scope.names.lookup y = some .local)
    (hsw : swapsWith (.ListComp el [⟨tg, itr, ifs, 0⟩] scp pos) (some (.Name y py)) sp.line X.env = pure true) (hi : PIH X tg itr wi) (ok : BlkOk X.N X.env.scope scp own)
    (hg : ∀ (s : Shared) (H : Hp) (C : Addr) (cl : List (Str × Addr)) (fp : List Addr), PG (X.blk s H scp (compEnvC scp cl C X.env) fp) tg g)
    (ht : ∀ (s : Shared) (H : Hp) (C : Addr) (cl : List (Str × Addr)) (fp : List Addr), PTs (X.blk s H scp (compEnvC scp cl C X.env) fp) ifs tt)
    (he : ∀ (s : Shared) (H : Hp) (C : Addr) (cl : List (Str × Addr)) (fp : List Addr), PE (X.blk s H scp (compEnvC scp cl C X.env) fp) el te)
    (hs : ∀ x, foldedSetIterable itr X.env x = pure x) : PS X (.Assign [.Name y py] (.ListComp el [⟨tg, itr, ifs, 0⟩] scp pos) sp) (tAsg (tLc wi g tt te (own.map (·.2))) (gName i)) := by
  refine ⟨fun pins s σ H D I h => ?_⟩
  rw [exec_Assign_Name_used _ _ _ _ hsw]
  refine wpAny_bind (wpAny_standAt (wpAny_bind ?_))
  show wpAny _ X.A (do let _ ← comprehension (.ListComp el [⟨tg, itr, ifs, 0⟩] scp pos) scp X.env (firstIterPos [⟨tg, itr, ifs, 0⟩] pos) (newList []) false (eval itr X.env) (some (assign (.Name y py) X.env))) _ _ s
  have h : tLc wi g tt te (own.map (·.2)) σ H (fun x H2 => gName i x σ H2 D.nx) := h
  refine wpAny_bind (thn (lcH_core (Qf := fun _ s2 => SP X pins D .next s2) hot hp nd I hi ok hg ht he hs h fun L C s2 m H2 J q hn f => ?_) fun _ s2 hq => wpAny_pure (wpAny_pure hq))
  show wpAny _ _ (assign (.Name y py) X.env (.ref L)) _ _ _
  refine wpAny_assign_Name (store_ok2 (v := V.ref L) J nd hy (.inl hyl) rfl (fun s3 I3 ⟨b, sb, hb⟩ => ?_) (.inr hyl))
  obtain ⟨f0, f1, f2, f3, f4, f5⟩ := f
  have ne : C ≠ b := by
    rcases hb with z | z
    · rw [z]; exact f1
    · exact fun e => f4 y b z e.symm
  exact ⟨m, hn.sameBut sb ne, fun h4 sc => ⟨_, H2, I3.turned (t' := s3.toks) (fun b o hb z => (sc.2 b hb).trans z) f0 f1 f3 f4 f5, q⟩⟩
end
end MW
namespace MW
open L2 PyProof.Rows PySem.Spec PySem
section
variable {c : RC} {Ex : XK} {X : Cx} {M : Mo} {N : List Str} {sc : Scope} {top : Bool} {lvl : Nat} {C : CallS}
theorem pt_ifExp {d a b : Expr} {td ta tb : TT} {pos : Pos} (hd : PT X d td) (ha : PT X a ta) (hb : PT X b tb) : PT X (.IfExp d a b pos) (fun σ H Q => td σ H fun k H1 => if k = true then ta σ H1 Q else tb σ H1 Q) := by
  refine ⟨fun pins s σ H Q I h => ?_⟩
  have e : PySem.isTrue (.IfExp d a b pos) X.env (eval (.IfExp d a b pos) X.env) = (do
    if ← PySem.isTrue d X.env (eval d X.env) then PySem.isTrue a X.env (eval a X.env) else PySem.isTrue b X.env (eval b X.env)) := by rfl
  rw [e]
  refine wpAny_bind (thn (hd.run pins s σ H _ I h) fun k s1 ⟨H1, I1, q1⟩ => ?_)
  cases k with
  | true => exact ha.run pins s1 σ H1 Q I1 q1
  | false => exact hb.run pins s1 σ H1 Q I1 q1
theorem ok_ife' (K : Ctx M c Ex N sc top lvl X) {d a b : ME} {rd ra rb : Expr → Bool} (hrd : ∀ y, rd y = true → Good c Ex X C d y) (hra : ∀ y, ra y = true → Good c Ex X C a y) (hrb : ∀ y, rb y = true → Good c Ex X C b y) {x : Expr} (h : mIfe rd ra rb x = true) :
    Good c Ex X C (.ife d a b) x := by
  have pe := ok_ife K hrd hra hrb h
  unfold mIfe at h
  split at h
  · rename_i t y z pos
    simp only [Bool.and_eq_true] at h
    obtain ⟨⟨hd, ha⟩, hb⟩ := h
    refine ⟨pe, PT.weak (pt_ifExp (hrd _ hd).pt (hra _ ha).pt (hrb _ hb).pt) fun σ H Q h => ?_, fun i e => (by cases e), fun op vs p e => (by cases e), rfl⟩
    obtain ⟨G, F, e, s, h⟩ := h
    simp only [tst, ev_ife, bind_assoc'] at h
    refine (tst_at s Step.refl h fun od e1 hn => ?_).imp fun k H1 q => ?_
    · cases q : od.boo with
      | none => rw [q] at hn; exact absurd rfl hn
      | some k => exact ⟨k, rfl⟩
    · obtain ⟨G1, F1, e1, od, s1, st1, hk, q⟩ := q
      rw [hk] at q
      cases k with
      | true => exact iteT (rd_go s1 st1 q)
      | false => exact iteF (rd_go s1 st1 q)
  · cases h
/-! ### arguments, displays -/
theorem ROL.len {H G : Hp} : ∀ {l : List OD} {xs : List V} {F : List Addr}, ROL c H G l xs F → xs.length = l.length
  | [], xs, F, h => by simp only [ROL] at h; rw [h.1]; rfl
  | d :: l, xs, F, h => by
    simp only [ROL] at h
    obtain ⟨x, r, F1, F2, rfl, rfl, p, q⟩ := h
    simp [ROL.len q]
/-- the argument as it is handed over -/
def repM (c : RC) (m : Bool) : Rep OD V := fun _ H G od v F => RO c H G (asArg m od) v F
theorem rdE_M {m : Bool} {f : Env → Out OD} {σ : L2.St} {H : Hp} {Q : V → Hp → Prop} (h : rdX c Ex (repM c m) f σ H Q) : rdX c Ex (repO c) f σ H Q := by
  cases m with
  | true => exact h
  | false =>
    refine rdE_S ?_
    obtain ⟨G, F, e, s, r⟩ := h
    refine ⟨G, F, e, s, ?_⟩
    revert r
    cases f e with
    | ok a e1 =>
      intro r b H' G' F' Fr s1 st rep nd fr
      obtain ⟨rfl, rp⟩ := rep
      exact r b H' G' F' [] s1 st (by show RO c H' G' (.s a.toD) b []; simp only [RO]; exact ⟨rp, trivial⟩) nd fr
    | exc k e1 => exact fun r => r
    | bad => exact fun r => r
theorem rdE_seal {m : Bool} {f : Env → Out OD} {σ : L2.St} {H : Hp} {Q : V → Hp → Prop} (h : rdX c Ex (repO c) (sealO m f) σ H Q) : rdX c Ex (repO c) f σ H Q := by
  refine rdE_M (m := m) ?_
  obtain ⟨G, F, e, s, r⟩ := h
  refine ⟨G, F, e, s, ?_⟩
  revert r
  unfold sealO
  cases f e with
  | ok a e1 => exact fun r => r
  | exc k e1 => exact fun r => r
  | bad => exact fun r => r
theorem eva_cons {m : Bool} {a : ME} {l : MAs} : eva C (.cons m a l) = fun e => (ev C a e).bind fun a e => (eva C l e).bind fun l e => .ok (asArg m a :: l) e := by
  funext e; rfl
/-- the rest of the arguments, behind a first one -/
theorem wArgs {m : Bool} {a : ME} {l : MAs} {σ : L2.St} {H : Hp} {Q : List V → Hp → Prop} (h : rdX c Ex (repA c) (eva C (.cons m a l)) σ H Q) :
    tCons (rdX c Ex (repO c) (ev C a)) (rdX c Ex (repA c) (eva C l)) σ H Q := by
  rw [eva_cons] at h
  refine rdE_M (m := m) ?_
  obtain ⟨G, F, e, s, h⟩ := h
  refine (rd_at (rep1 := repM c m) s Step.refl h).imp fun v H1 r => ?_
  obtain ⟨G1, F1, Fr1, e1, o, s1, _, st1, rp1, nd1, fr1, r, _⟩ := r
  refine ⟨G1, F1, e1, s1, ?_⟩
  revert r
  cases eva C l e1 with
  | ok ods e2 =>
    intro r vs H2 G2 F2 Fr2 s2 st2 rp2 nd2 fr2
    obtain ⟨st3, ag, nd3, fr3⟩ := st1.carry st2 nd1 fr1 (RO.there rp1) nd2
    have st4 : Step H G F H2 G2 (F2 ++ (Fr1 ++ Fr2)) := st3.less fun a ha => by
      simp only [List.mem_append] at ha ⊢
      rcases ha with h | h | h <;> simp [h]
    have nd4 : (F2 ++ (Fr1 ++ Fr2)).Nodup := by
      refine (List.Perm.nodup_iff ?_).mp nd3
      rw [List.append_assoc]
      exact List.Perm.append_left _ List.perm_append_comm
    refine r (v :: vs) H2 G2 F2 (Fr1 ++ Fr2) s2 st4 ?_ nd4 fun x hx => ?_
    · simp only [repA, ROL]
      exact ⟨v, vs, Fr1, Fr2, rfl, rfl, RO.mono st2.gle ag rp1, rp2⟩
    · rcases List.mem_append.mp hx with h | h
      · exact fr3 x h
      · exact fr2 x h
  | exc k e2 => exact fun r H2 G2 F2 s2 st2 => r H2 G2 F2 s2 ((st1.less fun a h => List.mem_append_left _ h).trans st2)
  | bad => exact fun r => r
theorem pa_nil' : PA X [] (rdX c Ex (repA c) (eva C .nil)) := by
  refine PA.weak pa_nil fun σ H Q h => ?_
  obtain ⟨G, F, e, s, h⟩ := h
  exact h [] H G F [] s (by simpa using Step.refl) (by simp only [repA, ROL]; exact ⟨trivial, trivial⟩) (by simpa using s.nd) (fun _ z => by cases z)
theorem pa_cons' {m : Bool} {a : ME} {l : MAs} {x : Expr} {es : List Expr} (g : Good c Ex X C a x) (h : PA X es (rdX c Ex (repA c) (eva C l))) : PA X (x :: es) (rdX c Ex (repA c) (eva C (.cons m a l))) :=
  PA.weak (pa_cons g.pe h (hs := star_cons g.ns)) fun σ H Q q => wArgs q
theorem ev_tup {l : MAs} : ev C (.tup l) = fun e => (eva C l e).bind fun l e => if l.length ≤ sizeLine then .ok (mkT l) e else .bad := by funext e; rfl
theorem ev_lst {l : MAs} : ev C (.lst l) = fun e => (eva C l e).bind fun l e => if l.length ≤ sizeLine then .ok (.ol l) e else .bad := by funext e; rfl
theorem ok_lst (K : Ctx M c Ex N sc top lvl X) {l : MAs} {r : List Expr → Bool} (hr : ∀ es, r es = true → PA X es (rdX c Ex (repA c) (eva C l))) {x : Expr} (h : mLst r x = true) : Good c Ex X C (.lst l) x := by
  unfold mLst at h
  split at h
  · rename_i es pos
    refine .plain K.hK (PE.weak (pe_lst (hr _ h)) fun σ H Q h => ?_) rfl rfl (fun j e => by cases e)
    rw [ev_lst] at h
    obtain ⟨G, F, e, s, h⟩ := h
    refine (rd_at (rep1 := repA c) s Step.refl h).imp fun vs H1 q => ?_
    obtain ⟨G1, F1, Fr1, e1, ods, s1, _, st1, rp1, nd1, fr1, q, _⟩ := q
    split at q
    · rename_i hz
      have rp1 : ROL c H1 G1 ods vs Fr1 := rp1
      refine ⟨by rw [rp1.len]; exact hz, fun p hp => ?_⟩
      obtain ⟨s2, st2, nd2, fr2⟩ := s1.grow (Grow.own (o := .lst vs) s1.sub hp)
      obtain ⟨st3, ag, nd3, fr3⟩ := st1.carry st2 nd1 fr1 (ROL.there rp1) nd2
      refine q (.ref p) _ G1 F1 (p :: Fr1) s2 (st3.less fun a ha => by simp only [List.mem_append, List.mem_cons] at ha ⊢; rcases ha with h | h | h <;> simp [h]) ?_ ?_ fun x hx => ?_
      · simp only [repO, RO]
        exact ⟨p, vs, Fr1, rfl, upd_same, ROL.mono (Gle.refl _) ag rp1, rfl⟩
      · rw [List.append_assoc] at nd3; exact nd3
      · rcases List.mem_cons.mp hx with h | h
        · exact fr2 x (by simp [h])
        · exact fr3 x h
    · exact q.elim
  · cases h
theorem ok_tup (K : Ctx M c Ex N sc top lvl X) {l : MAs} {r : List Expr → Bool} (hr : ∀ es, r es = true → PA X es (rdX c Ex (repA c) (eva C l))) {x : Expr} (h : mTup r x = true) : Good c Ex X C (.tup l) x := by
  unfold mTup at h
  split at h
  · rename_i es k pos
    refine .plain K.hK (PE.weak (pe_tup (hr _ h)) fun σ H Q h => ?_) rfl rfl (fun j e => by cases e)
    rw [ev_tup] at h
    obtain ⟨G, F, e, s, h⟩ := h
    refine (rd_at (rep1 := repA c) s Step.refl h).imp fun vs H1 q => ?_
    obtain ⟨G1, F1, Fr1, e1, ods, s1, _, st1, rp1, nd1, fr1, q, _⟩ := q
    split at q
    · rename_i hz
      have rp1 : ROL c H1 G1 ods vs Fr1 := rp1
      refine ⟨by rw [rp1.len]; exact hz, fun p hp => ?_⟩
      cases hm : allS ods with
      | some ds =>
        obtain rfl := allS_toDs hm
        obtain ⟨rs, rfl⟩ := ROL_s.mp rp1
        have em : mkT (ds.map .s) = .s (.tup ds) := by unfold mkT; rw [hm]
        rw [em] at q
        simp only [List.append_nil] at st1
        have gp := s1.sub.no hp
        obtain ⟨s2, st2, nd2, fr2⟩ := s1.grow (Grow.shared (o := .tup vs) s1.sub hp)
        simp only [List.append_nil] at st2
        refine rd_end s2 (st1.trans st2) q ?_
        simp only [RS]
        exact ⟨p, vs, rfl, SqT.of upd_same, RSL.mono (Gle.upd gp) rs⟩
      | none =>
        have em : mkT ods = .ot ods := by unfold mkT; rw [hm]
        rw [em] at q
        obtain ⟨s2, st2, nd2, fr2⟩ := s1.grow (Grow.own (o := .tup vs) s1.sub hp)
        obtain ⟨st3, ag, nd3, fr3⟩ := st1.carry st2 nd1 fr1 (ROL.there rp1) nd2
        refine q (.ref p) _ G1 F1 (p :: Fr1) s2 (st3.less fun a ha => by simp only [List.mem_append, List.mem_cons] at ha ⊢; rcases ha with h | h | h <;> simp [h]) ?_ ?_ fun x hx => ?_
        · simp only [repO, RO]
          exact ⟨p, vs, Fr1, rfl, upd_same, ROL.mono (Gle.refl _) ag rp1, rfl⟩
        · rw [List.append_assoc] at nd3; exact nd3
        · rcases List.mem_cons.mp hx with h | h
          · exact fr2 x (by simp [h])
          · exact fr3 x h
    · exact q.elim
  · cases h
theorem keysO_s : ∀ {l : List OD} {ks : List Key}, keysO l = some ks → ∃ ds : List D, l = ds.map .s ∧ ds.length = ks.length ∧ ∀ {H G : Hp} {vs : List V}, RSL c G ds vs → vs = ks.map kV
  | [], ks, h => by
    simp only [keysO, Option.some.injEq] at h
    subst h
    exact ⟨[], rfl, rfl, fun r => by simpa only [RSL, List.map_nil] using r⟩
  | o :: l, ks, h => by
    simp only [keysO] at h
    split at h
    · rename_i k r h1 h2
      cases h
      obtain ⟨ds, e1, e2, e3⟩ := keysO_s h2
      cases o <;> simp only [keyO, reduceCtorEq] at h1
      rename_i d
      refine ⟨d :: ds, by rw [e1]; rfl, by simp [e2], fun {H G vs} q => ?_⟩
      simp only [RSL] at q
      obtain ⟨x, r', rfl, p, q⟩ := q
      have hx : x = kV k := by
        cases d <;> simp only [keyD, Option.some.injEq, reduceCtorEq] at h1 <;> subst h1 <;> simpa only [RS, kV] using p
      rw [hx, e3 (H := H) q]
      rfl
    · cases h
theorem ev_tupK {l : MAs} : ev C (.tupK l) = fun e => (eva C l e).bind fun l e => match keysO l with
    | some ks => if l.length ≤ sizeLine then .ok (.s (.kt ks)) e else .bad
    | none => .bad := by funext e; rfl
theorem ok_tupK (K : Ctx M c Ex N sc top lvl X) {l : MAs} {r : List Expr → Bool} (hr : ∀ es, r es = true → PA X es (rdX c Ex (repA c) (eva C l))) {x : Expr} (h : mTup r x = true) : Good c Ex X C (.tupK l) x := by
  unfold mTup at h
  split at h
  · rename_i es k pos
    refine .plain K.hK (PE.weak (pe_tup (hr _ h)) fun σ H Q h => ?_) rfl rfl (fun j e => by cases e)
    rw [ev_tupK] at h
    obtain ⟨G, F, e, s, h⟩ := h
    refine (rd_at (rep1 := repA c) s Step.refl h).imp fun vs H1 q => ?_
    obtain ⟨G1, F1, Fr1, e1, ods, s1, _, st1, rp1, nd1, fr1, q, _⟩ := q
    split at q
    · rename_i ks hks
      split at q
      · rename_i hz
        have rp1 : ROL c H1 G1 ods vs Fr1 := rp1
        refine ⟨by rw [rp1.len]; exact hz, fun p hp => ?_⟩
        obtain ⟨ds, rfl, _, hv⟩ := keysO_s hks
        obtain ⟨rs, rfl⟩ := ROL_s.mp rp1
        obtain rfl := hv (H := H1) rs
        simp only [List.append_nil] at st1
        obtain ⟨s2, st2, nd2, fr2⟩ := s1.grow (Grow.shared (o := .tup (ks.map kV)) s1.sub hp)
        simp only [List.append_nil] at st2
        refine rd_end s2 (st1.trans st2) q ?_
        simp only [RS]
        exact ⟨p, rfl, upd_same⟩
      · exact q.elim
    · exact q.elim
  · cases h
/-! ### calls -/
/-- what a def promises: the evaluator's answer -/
def spC (c : RC) (C : CallS) (f n : Nat) : Sp := fun vs H Q E => vs.length = n ∧ ∃ G ods F, Sub G H ∧ Marks c G ∧ ROL c H G ods vs F ∧ F.Nodup ∧ (∀ a ∈ F, G a = none) ∧ match C f ods with
  | .ok r => ∀ v H' G' F', Step H G F H' G' F' → Sub G' H' → RO c H' G' r v F' → F'.Nodup → (∀ a ∈ F', G' a = none) → Q v H'
  | .exc k => ∀ H' G', Step H G F H' G' [] → Sub G' H' → E (.ref (c.cl k)) none H'
  | .bad => False
/-- what the module says of the class D's instances -/
def HFact (K : PySem.W.Frag) (mg : Str → Option Value) (D : Addr) (x : Str) (b : Bool) : Prop :=
  (∃ C, mg x = some (.ref C) ∧ PySem.W.kitOne K (.ref D) (.ref C) = some b) ∨ (∃ T, mg x = none ∧ bootBuiltins x = some (.type T) ∧ x ≠ "__name__" ∧ PySem.W.kitOne K (.ref D) (.type T) = some b)
/-- an exception class of the module -/
structure ExcOk (M : Mo) (C : Addr) (x : Str) : Prop where
  ex : ∃ (B newId initId : String) (bmB : List Value), ExcBaseFacts B newId initId bmB ∧ PySem.W.excIn M.K C bmB newId = true
  gC : M.mg x = some (.ref C)
  kC : PySem.W.keepIn M.K (.ref C) = true
  sC : PySem.W.subIn M.K (.ref C) (.type "BaseException") = some true
  tC : PySem.W.typeIn M.K (.ref C) = some (.type "type")
/-- the promise of a def that tells the caught exception's word -/
def rWd (D : Addr) (v : Str) : Addr × Obj → Sp := fun p vs H Q _ => vs = [.ref p.1] ∧ Zc (.ref D) none p.2 ∧ (∃ z, p.2.data = .fields z) ∧ ∀ H', (∀ b o, H b = some o → H' b = some o) → Q (.str v) H'
/-! functions made within a def -/
/-- its cells stand in the heap h, and hold vs -/
structure CellsB (h : Heap) (cl : List (Str × Addr)) (fr : List Str) (vs : List V) : Prop where
  len : vs.length = fr.length
  all : ∀ y a, cl.lookup y = some a → ∃ v, h.IsCell a v
  inj : ∀ x y a, cl.lookup x = some a → cl.lookup y = some a → x = y
  has : ∀ (i : Nat) (y : Str), fr[i]? = some y → ∃ a, cl.lookup y = some a ∧ ∀ v, vs[i]? = some v → ∃ u, RelV v u ∧ h.IsCell a (some u)
/-- the lambda's object -/
def LmP (f : Addr) (q : Str) (params : Arguments) (body : Expr) (scope : Scope) (cl : List (Str × Addr)) (co : Addr) : Heap → Prop := fun h => ∃ (pm ctv : Value), h.get? f = some (PySem.W.kla_obj "<lambda>" q params body scope cl pm co ctv)
/-- the nested def's object -/
def FnP (f : Addr) (F : NdefX.NF) : Heap → Prop := fun h => ∃ (od : Option Addr) (sl : Array (Option Value)) (doc pm ctv : Value), h.get? f = some (⟨.type "function", od, .func (F.fd doc pm ctv), sl⟩ : Obj)
theorem fnP_is (f : Addr) (F : NdefX.NF) : NdefX.FnO f F = .ext (FnP f F) := rfl
/-- the function k is one of those told by fn, its cells stand in base -/
def CloB (fn : Nm) (base : Heap) (k : CloR) : Prop := k.on = true → ∃ (q nm : Str) (fr : List Str) (sc : Scope) (cl : List (Str × Addr)), fn.li k.g = some (q, nm, fr) ∧ k.q = q ∧ CellsB base cl fr k.vs ∧
  ((∃ params body scope pos, fn.le k.g sc (.Lambda params body scope pos) = true ∧ k.fo = LmP k.f q params body scope cl k.co) ∨ ∃ st, fn.de k.g sc st = true ∧ k.fo = FnP k.f (NdefX.NF.of st nm q cl k.co))
/-- what is asked of such a function's call -/
def spK (c : RC) (C : CallS) : Sp := fun vs H Q E => ∃ G ods F ws, Sub G H ∧ Marks c G ∧ ROL c H G ods vs F ∧ F.Nodup ∧ (∀ a ∈ F, G a = none) ∧ RSL c G ws c.clo.vs ∧ match C c.clo.g (ods ++ ws.map .s) with
  | .ok r => ∀ v H' G' F', Step H G F H' G' F' → Sub G' H' → RO c H' G' r v F' → F'.Nodup → (∀ a ∈ F', G' a = none) → Q v H'
  | .exc k => ∀ H' G', Step H G F H' G' [] → Sub G' H' → E (.ref (c.cl k)) none H'
  | .bad => False
/-- what the text of a lambda says -/
structure LamFact (fn : Nm) (g : Nat) (sc : Scope) (z : Expr) : Prop where
  ex : ∃ params body scope pos q fr, z = .Lambda params body scope pos ∧ fn.li g = some (q, ("<lambda>" : Str), fr) ∧ (∀ env, defaultsOf params env = ([], [])) ∧
    (∀ y ∈ scope.names, y.2 = .free → sc.names.lookup y.1 = some .cell) ∧ ∀ y ∈ fr, (y, NameKind.free) ∈ scope.names
/-- what the text of a nested def says -/
structure DefIn (fn : Nm) (g : Nat) (sc : Scope) (st : Stmt) : Prop where
  ex : ∃ name pos q fr, st = .FunctionDef name (C8.fnArgs st) (C8.fnBody st) [] none [] (C8.fnScope st) none name pos ∧ fn.li g = some (q, name, fr) ∧ (C8.fnArgs st).defaults = [] ∧ (C8.fnArgs st).kw_defaults = [] ∧ (∀ env, annTrees (C8.fnArgs st) none env = []) ∧
    (∀ y ∈ (C8.fnScope st).names, y.2 = .free → sc.names.lookup y.1 = some .cell) ∧ ∀ y ∈ fr, (y, NameKind.free) ∈ (C8.fnScope st).names
/-- the defs that may be called: by its number f a def stands at a, under the name x -/
structure CallOk (M : Mo) (c : RC) (C : CallS) (lvl : Nat) (fn : Nm) (np : Nat → Nat) : Prop where
  ok : ∀ f x, fn f = some x → ∃ a fd ps, FnOk M.P M.w M.K M.mg M.base (L2N.CX M.P M.w) lvl a fd ps (spC c C f (np f)) ∧ M.mg x = some (.ref a) ∧ PySem.W.keepIn M.K (.ref a) = true ∧ Binds M.K fd ps []
  ar : ∀ f ods, C f ods ≠ .bad → ods.length = np f
  gc : ∀ x d, fn.g x = some d → ∃ v u, M.mg x = some u ∧ RelV v u ∧ ∀ G, RS c G d v
  cs : ∀ k x, fn.c k = some x → ExcOk M (c.cl k) x
  xc : ∀ j x, fn.c j = some x → ExcC M.K (c.cl j) ∧ PySem.W.exmOne M.K (.ref (c.cl j)) (.ref (c.cl 0)) = some true
  hf : ∀ j x, fn.h j x = true → HFact M.K M.mg (c.cl j) x (relE j x)
  hw : ∀ f x wd, fn.w f = some (x, wd) → ∃ a fd ps, M.mg x = some (.ref a) ∧ PySem.W.keepIn M.K (.ref a) = true ∧ Binds M.K fd ps [] ∧ ∀ j y, fn.c j = some y → fn.h j "ValueError" = true → FnW M.P M.w M.K M.mg M.base (L2N.CX M.P M.w) 1 a fd ps (rWd (c.cl j) (wordOf (relE j) wd))
  /-- the defs, handed a function that was made -/
  up : ∀ (base : Heap) (k : CloR), (∀ b o, M.base.get? b = some o → base.get? b = some o) → CloB fn base k → ∀ f x, fn f = some x → ∃ a fd ps, FnOk M.P M.w M.K M.mg base (L2N.CX M.P M.w) lvl a fd ps (spC { c with clo := k } C f (np f)) ∧ M.mg x = some (.ref a) ∧ PySem.W.keepIn M.K (.ref a) = true ∧ Binds M.K fd ps []
  /-- the function that the running def was handed -/
  run : c.clo.on = true → ∀ (A : Around) (outer : List PySem.Env) (s : Shared) (H : Hp) (us : List Value) (vs : List V) (Q : VK) (E : XK), Room lvl A → Env0 M.P M.w M.K M.mg M.base A outer s H → H c.clo.f = some (.ext c.clo.fo) → H c.clo.co = some (LamX.CodeO c.clo.co c.clo.q) → Vals vs us → spK c C vs H Q E →
    codeAny (model M.P M.w) A (.call (.ref c.clo.f) ⟨us, []⟩) (CR (L2N.CX M.P M.w) outer M.P M.w H s Q E) s
  fat : c.clo.on = true → ∀ h, c.clo.fo h → PySem.W.FnAt c.clo.f h
  tb : ∀ g q nm fr, fn.li g = some (q, nm, fr) → ∃ P, (P, q, nm) ∈ c.tabs
  lm : ∀ g sc z, fn.le g sc z = true → LamFact fn g sc z
  dm : ∀ g sc st, fn.de g sc st = true → DefIn fn g sc st
theorem ev_call {f : Nat} {l : MAs} : ev C (.call f l) = fun e => (eva C l e).bind fun l e => match C f l with
    | .ok r => .ok r e
    | .exc c => .exc c e
    | .bad => .bad := by funext e; rfl
/-- what a call's answer owes -/
abbrev finP (c : RC) (Ex : XK) (R : CRes) (H1 G1 : Hp) (Fr1 : List Addr) (Q : VK) : Prop := match R with
  | .ok r => ∀ v H' G' F', Step H1 G1 Fr1 H' G' F' → Sub G' H' → RO c H' G' r v F' → F'.Nodup → (∀ a ∈ F', G' a = none) → Q v H'
  | .exc k => ∀ H' G', Step H1 G1 Fr1 H' G' [] → Sub G' H' → Ex (.ref (c.cl k)) none H'
  | .bad => False
def outR (R : CRes) (e : Env) : Out OD := match R with
  | .ok r => .ok r e
  | .exc k => .exc k e
  | .bad => .bad
/-- a call's end -/
theorem call_fin {R : CRes} {σ : L2.St} {H H1 G G1 : Hp} {F0 F1 Fr1 : List Addr} {e1 : Env} {Q : VK} (s1 : SIM c σ H1 G1 F1 e1) (st1 : Step H G F0 H1 G1 (F1 ++ Fr1)) (nd1 : (F1 ++ Fr1).Nodup)
    (q : rdB c Ex H G F0 (repO c) (outR R e1) σ Q) : finP c Ex R H1 G1 Fr1 Q := by
  revert q
  cases R with
  | ok r =>
    intro q v H2 G2 F2 st2 sub2 ro2 nd2 fr2
    obtain ⟨s2, nd3⟩ := s1.beside nd1 st2 sub2 nd2
    refine q v H2 G2 F1 F2 s2 ⟨fun a o q n hf gn => ?_, fun a q => st2.some a (st1.some a q), st1.gle.trans st2.gle, fun a ha => ?_, fun a q => ?_⟩ ro2 nd3 fr2
    · refine st2.keep a o (st1.keep a o q n hf (st2.gle.some gn)) n (fun z => ?_) gn
      rcases st1.fF a (List.mem_append_right _ z) with h | h
      · exact hf h
      · rw [q] at h; cases h
    · rcases List.mem_append.mp ha with h | h
      · exact st1.fF a (List.mem_append_left _ h)
      · rcases st2.fF a h with z | z
        · exact st1.fF a (List.mem_append_right _ z)
        · by_cases q : H a = none
          · exact .inr q
          · exact absurd z (st1.some a q)
    · rcases st2.fG a q with z | z | z
      · exact st1.fG a z
      · exact .inr (st1.fF a (List.mem_append_right _ z))
      · by_cases q : H a = none
        · exact .inr (.inr q)
        · exact absurd z (st1.some a q)
  | exc k =>
    intro q H2 G2 st2 sub2
    obtain ⟨s2, nd3⟩ := s1.beside nd1 st2 sub2 List.nodup_nil
    refine q H2 G2 F1 s2 ⟨fun a o q n hf gn => ?_, fun a q => st2.some a (st1.some a q), st1.gle.trans st2.gle, fun a ha => st1.fF a (List.mem_append_left _ ha), fun a q => ?_⟩
    · refine st2.keep a o (st1.keep a o q n hf (st2.gle.some gn)) n (fun z => ?_) gn
      rcases st1.fF a (List.mem_append_right _ z) with h | h
      · exact hf h
      · rw [q] at h; cases h
    · rcases st2.fG a q with z | z | z
      · exact st1.fG a z
      · exact .inr (st1.fF a (List.mem_append_right _ z))
      · by_cases q : H a = none
        · exact .inr (.inr q)
        · exact absurd z (st1.some a q)
  | bad => exact fun q => q
theorem ok_call (K : Ctx M c Ex N sc top lvl X) {fn : Nm} {np : Nat → Nat} (W : CallOk M c C lvl fn np) {f : Nat} {l : MAs} {r : List Expr → Bool} (hr : ∀ es, r es = true → PA X es (rdX c Ex (repA c) (eva C l)) ∧ es.all noStar = true) {x : Expr}
    (h : mCall sc (fn f) r x = true) : Good c Ex X C (.call f l) x := by
  unfold mCall at h
  split at h
  · rename_i y p0 e0 es pos
    simp only [Bool.and_eq_true, decide_eq_true_eq] at h
    obtain ⟨⟨⟨hg, hn⟩, hd⟩, hr1⟩ := h
    obtain ⟨pa, hs⟩ := hr _ hr1
    obtain ⟨a, fd, ps, F, hm, hk, hb⟩ := W.ok f y hn
    have p1 := K.p
    have p2 := K.w
    have p3 := K.k
    have p4 := K.mg
    have p5 := K.base
    have nostar : ∀ (es : List Expr), es.all noStar = true → (starEach es X.env).any (·.1) = false := by
      intro es
      induction es with
      | nil => intro _; rfl
      | cons z es ih =>
        intro h
        simp only [List.all_cons, Bool.and_eq_true] at h
        rw [star_cons h.1]
        simp [ih h.2]
    simp only [List.all_cons, Bool.and_eq_true] at hs
    have hF : FnOk X.prog X.w X.K X.mg X.base (L2N.CX X.prog X.w) lvl a fd ps (spC c C f (np f)) := by rw [p1, p2, p3, p4, p5]; exact F
    have pass : Passes (L2N.CX X.prog X.w) X Ex := L2N.passes_call K.tk fun _ _ _ _ h => h
    refine .plain K.hK (PE.weak (pe_call hF (K.room.mono (Nat.le_succ _)) (K.gl hg) (by rw [p4]; exact hm) (by rw [p3]; exact hk) (by rw [p3]; exact hb) .nil pass pa (hdb := hd) (he := star_cons hs.1) (hpl := ?_)) fun σ H Q h => ?_) rfl rfl (fun j e => by cases e)
    · have := nostar es hs.2
      simp only [backTo, List.any_map]
      exact this
    · rw [ev_call] at h
      obtain ⟨G, F0, e, s, h⟩ := h
      refine (rd_at (rep1 := repA c) s Step.refl h).imp fun vs H1 q => ?_
      obtain ⟨G1, F1, Fr1, e1, ods, s1, _, st1, rp1, nd1, fr1, q, _⟩ := q
      have rp1 : ROL c H1 G1 ods vs Fr1 := rp1
      rw [List.append_nil]
      have hne : C f ods ≠ .bad := fun z => by rw [z] at q; exact q.elim
      refine ⟨by rw [rp1.len]; exact W.ar f ods hne, G1, ods, Fr1, s1.sub, s1.ren.marks, rp1, (List.nodup_append.mp nd1).2.1, fr1, ?_⟩
      exact call_fin s1 st1 nd1 q
  · cases h
end
end MW
namespace MW
open L2 PyProof.Rows PySem.Spec PySem
section
variable {c : RC} {Ex : XK} {X : Cx} {M : Mo} {N : List Str} {sc : Scope} {top : Bool} {lvl : Nat} {C : CallS}
theorem ev_skey {f : Nat} {a : ME} : ev C (.skey f a) = fun e => (ev C a e).bind fun a e => match a.toD with
    | .lst l => (match (keysC C f l).bind (sortK l) with
      | some od => .ok od e
      | none => .bad)
    | _ => .bad := by funext e; rfl
theorem Step.next {H G H1 G1 H2 G2 : Hp} {F F1 Fr F2 : List Addr} (x : Step H G F H1 G1 (F1 ++ Fr)) (y : Step H1 G1 Fr H2 G2 F2) : Step H G F H2 G2 (F1 ++ F2) := by
  refine ⟨fun a o q n hf gn => ?_, fun a q => y.some a (x.some a q), x.gle.trans y.gle, fun a ha => ?_, fun a q => ?_⟩
  · refine y.keep a o (x.keep a o q n hf (y.gle.some gn)) n (fun z => ?_) gn
    rcases x.fF a (List.mem_append_right _ z) with h | h
    · exact hf h
    · rw [q] at h; cases h
  · rcases List.mem_append.mp ha with h | h
    · exact x.fF a (List.mem_append_left _ h)
    · rcases y.fF a h with z | z
      · exact x.fF a (List.mem_append_right _ z)
      · by_cases q : H a = none
        · exact .inr q
        · exact absurd z (x.some a q)
  · rcases y.fG a q with z | z | z
    · exact x.fG a z
    · exact .inr (x.fF a (List.mem_append_right _ z))
    · by_cases q : H a = none
      · exact .inr (.inr q)
      · exact absurd z (x.some a q)
theorem keysC_get {f : Nat} : ∀ {l kd : List D}, keysC C f l = some kd → kd.length = l.length ∧ ∀ (i : Nat) (d : D), l[i]? = some d → ∃ r, C f [.s d] = .ok r ∧ kd[i]? = some r.toD
  | [], kd, h => by
    simp only [keysC, Option.some.injEq] at h
    subst h
    exact ⟨rfl, fun i d q => by simp at q⟩
  | x :: l, kd, h => by
    simp only [keysC] at h
    split at h
    · rename_i r hr
      simp only [Option.map_eq_some_iff] at h
      obtain ⟨k2, h1, rfl⟩ := h
      obtain ⟨e1, e2⟩ := keysC_get h1
      refine ⟨by simp [e1], fun i d q => ?_⟩
      cases i with
      | zero =>
        simp only [List.getElem?_cons_zero, Option.some.injEq] at q
        subst q
        exact ⟨r, hr, by simp⟩
      | succ i =>
        obtain ⟨r2, g1, g2⟩ := e2 i d (by simpa using q)
        exact ⟨r2, g1, by simpa using g2⟩
    · cases h
theorem room2 {k : Nat} {A : Around} (r : Room (k + 1) A) : Room k A.in1.in1 :=
  ⟨r.hd, by have := r.dp; show A.depth + 3 * k + 5 < _; omega, by have := r.un; show A.units + 1 + 1 + 16 * k + 200 < _; omega⟩
theorem RSL.get' {G : Hp} {l : List D} {xs : List V} {i : Nat} {x : V} (h : RSL c G l xs) (e : xs[i]? = some x) : ∃ d, l[i]? = some d ∧ RS c G d x := by
  have hl := h.len
  have hi : i < l.length := by
    have := (List.getElem?_eq_some_iff.mp e).1
    omega
  obtain ⟨x', e', r⟩ := h.get (List.getElem?_eq_getElem hi)
  rw [e] at e'
  cases e'
  exact ⟨_, List.getElem?_eq_getElem hi, r⟩
theorem sort_same {G : Hp} {l : List D} {xs : List V} {ps : List PyData} (rs : RSL c G l xs) (hl : ps.length = l.length) : RSL c G (((l.zip ps).mergeSort (PySem.W.dataLe false Prod.snd)).map Prod.fst) (sortZ xs ps) := by
  have ln := rs.len
  have e1 : sortZ xs ps = ((xs.zip (l.zip ps)).mergeSort (PySem.W.dataLe false fun b => b.2.2)).map (fun b => b.1) := by
    unfold sortZ
    have q := List.map_mergeSort (r := PySem.W.dataLe false fun b : V × D × PyData => b.2.2) (s := PySem.W.dataLe false (Prod.snd : V × PyData → PyData)) (f := fun b : V × D × PyData => (b.1, b.2.2)) (l := xs.zip (l.zip ps)) (fun _ _ _ _ => rfl)
    have z : (xs.zip (l.zip ps)).map (fun b : V × D × PyData => (b.1, b.2.2)) = xs.zip ps := by
      have : (fun b : V × D × PyData => (b.1, b.2.2)) = Prod.map id Prod.snd := rfl
      rw [this, ← List.zip_map_right, List.map_snd_zip (by omega)]
    rw [z] at q
    rw [← q, List.map_map]
    rfl
  have e2 : ((l.zip ps).mergeSort (PySem.W.dataLe false Prod.snd)).map Prod.fst = ((xs.zip (l.zip ps)).mergeSort (PySem.W.dataLe false fun b => b.2.2)).map (fun b => b.2.1) := by
    have q := List.map_mergeSort (r := PySem.W.dataLe false fun b : V × D × PyData => b.2.2) (s := PySem.W.dataLe false (Prod.snd : D × PyData → PyData)) (f := fun b : V × D × PyData => b.2) (l := xs.zip (l.zip ps)) (fun _ _ _ _ => rfl)
    have z : (xs.zip (l.zip ps)).map (fun b : V × D × PyData => b.2) = l.zip ps := List.map_snd_zip (by rw [List.length_zip]; omega)
    rw [z] at q
    rw [← q, List.map_map]
    rfl
  have perm := List.mergeSort_perm (xs.zip (l.zip ps)) (PySem.W.dataLe false fun b => b.2.2)
  have all : ∀ b ∈ xs.zip (l.zip ps), RS c G b.2.1 b.1 := fun b m => by
    have m2 : (b.1, b.2.1) ∈ xs.zip l := by
      have z : (xs.zip (l.zip ps)).map (fun b : V × D × PyData => (b.1, b.2.1)) = xs.zip l := by
        have : (fun b : V × D × PyData => (b.1, b.2.1)) = Prod.map id Prod.fst := rfl
        rw [this, ← List.zip_map_right, List.map_fst_zip (by omega)]
      rw [← z]
      exact List.mem_map.mpr ⟨b, m, rfl⟩
    exact rs.zip _ m2
  rw [e1, e2]
  have q := RSL.of (c := c) (G := G) (bs := ((xs.zip (l.zip ps)).mergeSort (PySem.W.dataLe false fun b => b.2.2)).map fun b => (b.1, b.2.1)) fun b m => by
    obtain ⟨b', m', rfl⟩ := List.mem_map.mp m
    exact all b' (perm.mem_iff.mp m')
  rw [List.map_map, List.map_map] at q
  exact q
def rSkey (X : Cx) (fa : Addr) (sp : Sp) : List V → List V → Hp → VK → Prop := fun vs zs H Q => ∃ a xs, vs = [V.ref a] ∧ zs = [V.ref fa] ∧ SqL X.K H a xs ∧ ∃ W : Nat → List V → Hp → Prop, W 0 [] H ∧
  (∀ i x ks H1, xs[i]? = some x → W i ks H1 → sp [x] H1 (fun v H2 => W (i + 1) (ks ++ [v]) H2) (fun _ _ _ => False)) ∧
  (∀ ks H1, W xs.length ks H1 → ∃ kz, DpAll X.K H1 ks kz ∧ PySem.W.AllAlike kz ∧ PySem.W.Sortable kz ∧ (∀ d ∈ kz, d.depth ≤ 32) ∧ ∀ p, H1 p = none → Q (.ref p) (upd H1 p (.lst (sortZ xs kz))))
theorem cr_skey {k : Nat} {fa : Addr} {fd : FuncData} {ps : List Str} {sp : Sp} (F : FnOk X.prog X.w X.K X.mg X.base (L2N.CX X.prog X.w) k fa fd ps sp) (hr : Room k X.A.in1.in1) (hb : Binds X.K fd ps []) (hu : X.A.units + 64 < cLine) :
    CallRK X (.builtin "sorted") [Str.ofString "key"] (rSkey X fa sp) := by
  intro pins s σ H vs zs us ws Q I r rz h
  obtain ⟨a, xs, rfl, rfl, hs, W, w0, wS, wE⟩ := h
  obtain rfl := Vals.ref1 r
  obtain ⟨w1, rfl, e1⟩ := vals1 rz
  obtain rfl : w1 = Value.ref fa := e1
  exact skey_run F hr hb hu I hs W w0 wS wE
theorem ok_skey (K : Ctx M c Ex N sc top lvl X) {fn : Nm} {np : Nat → Nat} (W : CallOk M c C lvl fn np) {f : Nat} {a : ME} {r : Expr → Bool} (hr : ∀ y, r y = true → Good c Ex X C a y) {x : Expr}
    (h : mSkey sc (fn f) r x = true) : Good c Ex X C (.skey f a) x := by
  unfold mSkey at h
  split at h
  · rename_i y p0 x key g p1 kp pos
    simp only [Bool.and_eq_true, decide_eq_true_eq] at h
    obtain ⟨⟨⟨⟨⟨⟨hg, hy⟩, hk⟩, hgg⟩, hn⟩, hdb⟩, hr1⟩ := h
    subst hy
    subst hk
    have ga := hr _ hr1
    obtain ⟨fa, fd, ps, F, hm, hkp, hb⟩ := W.ok f g hn
    have p1 := K.p
    have p2 := K.w
    have p3 := K.k
    have p4 := K.mg
    have p5 := K.base
    have hF : FnOk X.prog X.w X.K X.mg X.base (L2N.CX X.prog X.w) lvl fa fd ps (spC c C f (np f)) := by rw [p1, p2, p3, p4, p5]; exact F
    refine .plain K.hK (PE.weak (pe_callBK (cr_skey hF (room2 K.room) (by rw [p3]; exact hb) K.hu) (K.gl hg) (K.free (by decide +kernel)) (by decide +kernel) (pa_cons ga.S pa_nil (hs := star_cons ga.ns)) (pk_cons (pe_glob (K.gl hgg) (by rw [p4]; exact hm) (v := .ref fa) rfl hdb) pk_nil)
      (hn := by decide +kernel) (hdb := by decide +kernel) (he := by rw [star_cons ga.ns]; rfl) (hpl := by rw [star_cons ga.ns]; rfl)) fun σ H Q q => ?_) rfl rfl (fun j e => by cases e)
    rw [ev_skey] at q
    obtain ⟨G, F0, e, s, q⟩ := q
    refine (rd_at (rep1 := repS c) s Step.refl q).imp fun z H1 q => ?_
    obtain ⟨G1, F1, Fr1, e1, od, s1, _, st1, ⟨rfl, rp1⟩, nd1, fr1, q, _⟩ := q
    simp only [List.append_nil] at st1
    split at q
    · rename_i l hl
      rw [hl] at rp1
      simp only [RS] at rp1
      obtain ⟨b, xs, rfl, sq, rz⟩ := rp1
      split at q
      · rename_i od2 hk
        simp only [Option.bind_eq_some_iff] at hk
        obtain ⟨kd, hkd, hk⟩ := hk
        obtain ⟨lk, gk⟩ := keysC_get hkd
        unfold sortK at hk
        split at hk
        · rename_i ps2 hps
          split at hk
          · rename_i hok
            obtain ⟨hok, hlen, hl2⟩ := hok
            obtain ⟨hal, hsk, hdp⟩ := sortOk_ok hok
            cases hk
            refine ⟨b, xs, rfl, rfl, .inl (s1.sub.rd sq), fun i ks H' => ∃ G', SIM c σ H' G' F1 e1 ∧ Step H G F0 H' G' F1 ∧ Gle G1 G' ∧ RSL c G' (kd.take i) ks, ⟨G1, s1, st1, Gle.refl _, by simp [RSL]⟩, fun i x ks H2 hx hW => ?_, fun ks H2 hW => ?_⟩
            · obtain ⟨G2, s2, st2, g2, rk⟩ := hW
              obtain ⟨d, hd, rd⟩ := rz.get' hx
              obtain ⟨r, hr2, hkd2⟩ := gk i d hd
              have ar := W.ar f [.s d] (by rw [hr2]; exact fun z => by cases z)
              refine ⟨by simpa using ar, G2, [.s d], [], s2.sub, s2.ren.marks, ?_, List.nodup_nil, (fun _ z => by cases z), ?_⟩
              · simp only [ROL, RO]
                exact ⟨x, [], [], [], rfl, rfl, ⟨RS.mono g2 rd, rfl⟩, rfl, rfl⟩
              · rw [hr2]
                intro v H3 G3 F3 st3 sub3 ro3 nd3 fr3
                obtain ⟨s3, nd4⟩ := s2.beside (by simpa using s2.nd) st3 sub3 nd3
                have st4 : Step H G F0 H3 G3 (F1 ++ F3) := Step.next (by simpa using st2) st3
                obtain ⟨s5, st5⟩ := s3.share st4 nd4 fr3 (RO.seqs ro3)
                refine ⟨_, s5, st5, (g2.trans st3.gle).trans (shr_le fr3), ?_⟩
                have et : kd.take (i + 1) = kd.take i ++ [r.toD] := by rw [List.take_add_one, hkd2]; rfl
                rw [et]
                refine RSL.app (RSL.mono (st3.gle.trans (shr_le fr3)) rk) ?_
                simp only [RSL]
                exact ⟨v, [], rfl, RO.share (shr_le fr3) shr_agree ro3, rfl⟩
            · obtain ⟨G2, s2, st2, g2, rk⟩ := hW
              have e0 : kd.take xs.length = kd := List.take_of_length_le (by rw [lk, rz.len]; exact Nat.le_refl _)
              rw [e0] at rk
              refine ⟨ps2, RSL.dp K.hK.symm s2.sub rk hps, hal, hsk, hdp, fun p hp => ?_⟩
              have rs2 := sort_same (RSL.mono g2 rz) hl2
              obtain ⟨s4, st4, nd4, fr4⟩ := s2.grow (Grow.own (o := .lst (sortZ xs ps2)) s2.sub hp)
              refine q (.ref p) _ G2 F1 [p] s4 (st2.trans st4) ?_ nd4 fr4
              simp only [repO, RO]
              refine ⟨p, _, [], rfl, upd_same, ?_, rfl⟩
              have em : ((l.zip ps2).mergeSort (PySem.W.dataLe false Prod.snd)).map (fun p => OD.s p.1) = (((l.zip ps2).mergeSort (PySem.W.dataLe false Prod.snd)).map Prod.fst).map .s := by rw [List.map_map]; rfl
              rw [em]
              exact ROL_s.mpr ⟨rs2, rfl⟩
          · cases hk
        · cases hk
      · exact q.elim
    · exact q.elim
  · cases h
end
end MW
namespace MW
open L2 PyProof.Rows PySem.Spec PySem
section
variable {c : RC} {Ex : XK} {X : Cx} {M : Mo} {N : List Str} {sc : Scope} {top : Bool} {lvl : Nat} {C : CallS}
/-! ### slots exchanged that own nothing -/
def plainS (o : Option (Option OD)) : Prop := o = some none ∨ ∃ d, o = some (some (.s d))
theorem REnv.swap {H G : Hp} : ∀ {e e' : Env} {σ σ' : L2.St} {F : List Addr}, REnv c H G e σ F → e'.length = e.length → σ'.length = σ.length →
    (∀ i : Nat, (e'[i]? = e[i]? ∧ σ'[i]? = σ[i]?) ∨ (plainS e[i]? ∧ (e'[i]? = some none ∨ ∃ d v, e'[i]? = some (some (OD.s d)) ∧ σ'[i]? = some (some v) ∧ RS c G d v))) → REnv c H G e' σ' F
  | [], e', σ, σ', F, h, l1, l2, _ => by
    simp only [REnv] at h
    obtain ⟨rfl, rfl, hm⟩ := h
    obtain rfl := List.eq_nil_of_length_eq_zero l1
    obtain rfl := List.eq_nil_of_length_eq_zero l2
    simp only [REnv]; exact ⟨trivial, trivial, hm⟩
  | o :: e, [], σ, σ', F, h, l1, l2, _ => by simp at l1
  | none :: e, o' :: e', σ, σ', F, h, l1, l2, al => by
    simp only [REnv] at h
    obtain ⟨y, r, rfl, h⟩ := h
    cases σ' with
    | nil => simp at l2
    | cons y' r' =>
      have tl := REnv.swap (e' := e') (σ' := r') h (by simpa using l1) (by simpa using l2) fun i => by simpa using al (i + 1)
      have h0 := al 0
      simp only [List.getElem?_cons_zero] at h0
      rcases h0 with ⟨h1, h2⟩ | ⟨_, h1 | ⟨d, v, h1, h2, h3⟩⟩
      · cases h1
        simp only [REnv]; exact ⟨y', r', rfl, tl⟩
      · cases h1
        simp only [REnv]; exact ⟨y', r', rfl, tl⟩
      · cases h1
        cases h2
        simp only [REnv, RO]; exact ⟨v, r', [], F, rfl, rfl, ⟨h3, rfl⟩, tl⟩
  | some od :: e, o' :: e', σ, σ', F, h, l1, l2, al => by
    simp only [REnv] at h
    obtain ⟨w, r, F1, F2, rfl, rfl, ro, h⟩ := h
    cases σ' with
    | nil => simp at l2
    | cons y' r' =>
      have tl := REnv.swap (e' := e') (σ' := r') h (by simpa using l1) (by simpa using l2) fun i => by simpa using al (i + 1)
      have h0 := al 0
      simp only [List.getElem?_cons_zero] at h0
      rcases h0 with ⟨h1, h2⟩ | ⟨pl, h⟩
      · cases h1
        cases h2
        simp only [REnv]; exact ⟨w, r', F1, F2, rfl, rfl, ro, tl⟩
      · have hF : F1 = [] := by
          rcases pl with z | ⟨d, z⟩
          · cases z
          · cases z; simp only [RO] at ro; exact ro.2
        subst hF
        rcases h with h1 | ⟨d, v, h1, h2, h3⟩
        · cases h1
          simp only [REnv]; exact ⟨y', r', rfl, by simpa using tl⟩
        · cases h1
          cases h2
          simp only [REnv, RO]; exact ⟨v, r', [], F2, rfl, rfl, ⟨h3, rfl⟩, tl⟩
/-- a slot is written; what stood there is let go -/
theorem SIM.store {σ : L2.St} {H G : Hp} {F Fi : List Addr} {e : Env} {i : Nat} {od : OD} {v : V} (s : SIM c σ H G F e) (hi : i < e.length) (ro : RO c H G od v Fi) (nd : (F ++ Fi).Nodup) (fr : ∀ a ∈ Fi, G a = none) :
    ∃ F', SIM c (σ.set i (some v)) H G F' (e.set i (some od)) ∧ ∀ a ∈ F', a ∈ F ++ Fi := by
  cases q : e[i]? with
  | none => rw [List.getElem?_eq_none_iff] at q; omega
  | some o =>
    cases o with
    | none =>
      obtain ⟨Fa, Fb, rfl, put⟩ := s.ren.put q
      have mem : ∀ a, a ∈ Fa ++ (Fi ++ Fb) → a ∈ (Fa ++ Fb) ++ Fi := fun a ha => by
        simp only [List.mem_append] at ha ⊢
        rcases ha with h | h | h <;> simp [h]
      refine ⟨Fa ++ (Fi ++ Fb), ⟨s.sub, put od v Fi ro, ?_, fun a ha => ?_⟩, mem⟩
      · refine (List.Perm.nodup_iff ?_).mp nd
        rw [List.append_assoc]
        exact List.Perm.append_left _ List.perm_append_comm
      · rcases List.mem_append.mp (mem a ha) with h | h
        · exact s.gf a h
        · exact fr a h
    | some od0 =>
      obtain ⟨v0, Fa, F0, Fb, e1, rfl, ro0, put, _⟩ := s.ren.get q
      have mem : ∀ a, a ∈ Fa ++ (Fi ++ Fb) → a ∈ (Fa ++ (F0 ++ Fb)) ++ Fi := fun a ha => by
        simp only [List.mem_append] at ha ⊢
        rcases ha with h | h | h <;> simp [h]
      refine ⟨Fa ++ (Fi ++ Fb), ⟨s.sub, put H G od v Fi (Gle.refl _) (fun a _ o q => q) ro, ?_, fun a ha => ?_⟩, mem⟩
      · have n2 : (Fa ++ (Fb ++ Fi)).Nodup := by
          refine List.Nodup.sublist ?_ nd
          rw [← List.append_assoc]
          refine List.Sublist.append ?_ (List.Sublist.refl _)
          exact List.Sublist.append (List.Sublist.refl _) (List.sublist_append_right _ _)
        refine (List.Perm.nodup_iff ?_).mp n2
        exact List.Perm.append_left _ List.perm_append_comm
      · rcases List.mem_append.mp (mem a ha) with h | h
        · exact s.gf a h
        · exact fr a h
/-! ### targets -/
theorem store_vis (K : Ctx M c Ex N sc top lvl X) {i : Nat} {x : Str} (h : storeOk N sc top i x = true) : X.N[i]? = some x ∧ Loc X.env.scope x ∧ (X.fn x = true ∨ X.env.scope.names.lookup x = some .local) := by
  unfold storeOk at h
  simp only [Bool.and_eq_true, Bool.or_eq_true, decide_eq_true_eq] at h
  obtain ⟨h1, h2⟩ := h
  rw [K.n, K.sc]
  rcases h2 with h | ⟨ht, h⟩
  · exact ⟨h1, .inl h, .inr h⟩
  · exact ⟨h1, .inr h, .inl ((K.fn ht x).elim id fun z => absurd (by rw [K.sc]; exact h) z)⟩
/-- what a stored name's place says -/
def StoOk (X : Cx) (N : List Str) (sc : Scope) (tp : Bool) : Prop := ∀ i x, storeOk N sc tp i x = true → X.N[i]? = some x ∧ Loc X.env.scope x ∧ (X.fn x = true ∨ X.env.scope.names.lookup x = some .local)
theorem StoOk.of (K : Ctx M c Ex N sc top lvl X) : StoOk X N sc top := fun i x h => store_vis K h
theorem pgName0 {sc : Scope} {tp : Bool} (nd : X.N.Nodup) (K : StoOk X N sc tp) {i : Nat} {x : Str} {pos : Pos} (h : storeOk N sc tp i x = true) : PG X (.Name x pos) (gName i) := by
  obtain ⟨h1, h2, h3⟩ := K i x h
  exact pg_name nd h1 h2 h3
def gsT : List Nat → TGs
  | [] => gNil
  | i :: is => gCons (gName i) (gsT is)
theorem pgsT0 {sc : Scope} {tp : Bool} (nd : X.N.Nodup) (K : StoOk X N sc tp) : ∀ {is : List Nat} {es : List Expr}, tgtOk N sc tp is es = true → PGs X es (gsT is) ∧ (assignEach es X.env).length = is.length ∧ (assignEach es X.env).findIdx? (·.1) = none
  | [], [], _ => ⟨pgs_nil, rfl, rfl⟩
  | [], e :: es, h => by simp [tgtOk] at h
  | i :: is, [], h => by simp [tgtOk] at h
  | i :: is, e :: es, h => by
    unfold tgtOk at h
    split at h
    · simp_all
    · rename_i i' is' x pos es' h1 h2
      cases h1; cases h2
      simp only [Bool.and_eq_true] at h
      obtain ⟨a, b, d⟩ := pgsT0 nd K h.2
      refine ⟨pgs_cons (pgName0 nd K h.1) a (by rfl), ?_, ?_⟩
      · show (_ :: assignEach es X.env).length = _
        simp [b]
      · show ((false, _) :: assignEach es X.env).findIdx? (·.1) = none
        rw [List.findIdx?_cons]
        simp [d]
    · cases h
/-- the slots t of σ' are new, the others are σ's -/
def OffT (t : List Nat) (σ σ' : L2.St) : Prop := σ'.length = σ.length ∧ ∀ i, i ∉ t → σ'[i]? = σ[i]?
theorem OffT.set {t : List Nat} {σ : L2.St} {i : Nat} {y : Option V} (h : i ∈ t) : OffT t σ (σ.set i y) := ⟨by simp, fun j hj => by
  have : i ≠ j := fun z => hj (z ▸ h)
  rw [List.getElem?_set_ne this]⟩
theorem OffT.trans {t : List Nat} {a b d : L2.St} (x : OffT t a b) (y : OffT t b d) : OffT t a d := ⟨y.1.trans x.1, fun i hi => (y.2 i hi).trans (x.2 i hi)⟩
theorem gsT_ok {t : List Nat} : ∀ {is : List Nat} {ds : List D} {xs : List V} {σ : L2.St} {H G : Hp} {F : List Addr} {e e1 : Env} {Q : L2.St → Hp → Prop}, (∀ i ∈ is, i ∈ t) → ds.length = is.length → RSL c G ds xs → SIM c σ H G F e → setTs is ds e = some e1 →
    (∀ σ' F', SIM c σ' H G F' e1 → (∀ a ∈ F', a ∈ F) → OffT t σ σ' → Q σ' H) → gsT is xs σ H Q
  | [], ds, xs, σ, H, G, F, e, e1, Q, ht, hl, rs, s, hs, k => by
    obtain rfl := List.eq_nil_of_length_eq_zero hl
    simp only [RSL] at rs
    subst rs
    simp only [setTs, Option.some.injEq] at hs
    subst hs
    exact ⟨rfl, k σ F s (fun a h => h) ⟨rfl, fun _ _ => rfl⟩⟩
  | i :: is, [], xs, σ, H, G, F, e, e1, Q, ht, hl, rs, s, hs, k => by simp at hl
  | i :: is, d :: ds, xs, σ, H, G, F, e, e1, Q, ht, hl, rs, s, hs, k => by
    simp only [RSL] at rs
    obtain ⟨x, r, rfl, p, q⟩ := rs
    simp only [setTs] at hs
    split at hs
    · rename_i hi
      obtain ⟨F', s', mem⟩ := s.store (od := .s d) (Fi := []) hi (by simp only [RO]; exact ⟨p, trivial⟩) (by simpa using s.nd) (fun _ z => by cases z)
      refine ⟨x, r, rfl, ?_⟩
      refine gsT_ok (t := t) (fun j hj => ht j (List.mem_cons_of_mem _ hj)) (by simpa using hl) q s' hs fun σ2 F2 s2 mem2 off => ?_
      exact k σ2 F2 s2 (fun a h => by simpa using mem a (mem2 a h)) ((OffT.set (ht i (List.mem_cons_self ..))).trans off)
    · cases hs
/-- a target: what it stores -/
def gT (K : PySem.W.Frag) (t : List Nat) (one : Bool) : TG := if one then gName (t.headD 0) else gTup K t.length (gsT t)
theorem pgT0 {sc : Scope} {tp : Bool} (nd : X.N.Nodup) (hc : X.calm = true) (hK : X.K = c.K) (K : StoOk X N sc tp) {t : List Nat} {one : Bool} {tg : Expr} (h : mT N sc tp t one tg = true) : PG X tg (gT c.K t one) := by
  unfold mT at h
  split at h
  · exact pgName0 nd K h
  · obtain ⟨p1, p2, p3⟩ := pgsT0 nd K h
    have := pg_tup (k := by assumption) hc p1 p2 p3 (pos := by assumption)
    rw [hK] at this
    exact this
  · cases h
theorem pgT (K : Ctx M c Ex N sc top lvl X) {t : List Nat} {one : Bool} {tg : Expr} (h : mT N sc top t one tg = true) : PG X tg (gT c.K t one) := pgT0 (by rw [K.n]; exact K.nd) K.calm K.hK (.of K) h
theorem gT_ok {t : List Nat} {one : Bool} {v : V} {σ : L2.St} {H G : Hp} {F : List Addr} {d : D} {e e1 : Env} {Q : L2.St → Hp → Prop} (rs : RS c G d v) (s : SIM c σ H G F e) (hs : setT t one d e = some e1)
    (k : ∀ σ' F', SIM c σ' H G F' e1 → (∀ a ∈ F', a ∈ F) → OffT t σ σ' → Q σ' H) : gT c.K t one v σ H Q := by
  unfold setT at hs
  split at hs
  · rename_i i
    split at hs
    · rename_i hi
      cases hs
      obtain ⟨F', s', mem⟩ := s.store (od := .s d) (Fi := []) hi (by simp only [RO]; exact ⟨rs, trivial⟩) (by simpa using s.nd) (fun _ z => by cases z)
      exact k _ F' s' (fun a h => by simpa using mem a h) (OffT.set (List.mem_cons_self ..))
    · cases hs
  · split at hs
    · rename_i ds
      split at hs
      · rename_i hl
        simp only [RS] at rs
        obtain ⟨a, xs, rfl, sq, rl⟩ := rs
        refine ⟨a, xs, rfl, s.sub.tup sq, by rw [rl.len]; exact hl, ?_⟩
        exact gsT_ok (t := t) (fun _ h => h) hl rl s hs k
      · cases hs
    · cases hs
  · cases hs
end
end MW
namespace MW
open L2 PyProof.Rows PySem.Spec PySem
/-! ### enumerate over a tuple -/
set_option maxHeartbeats 1000000 in
theorem enum_newT {a : Addr} {its : Array Value} : Meets (Builtin.«enumerate.__new__» ⟨[.type "enumerate", .ref a], []⟩) (fun _ R s => s.heap.IsTuple a its ∧
      R (.ok (.ret (.ref (s.heap.push { cls := .type "tuple_iterator", data := .fields #[.ref a, .int 0 0] }).objs.size)))
        { s with heap := (s.heap.push { cls := .type "tuple_iterator", data := .fields #[.ref a, .int 0 0] }).push { cls := .type "enumerate", data := .fields #[.none, .bool false, .ref s.heap.objs.size, rawInt 0, .none, .none] } }) :=
  .of_wp fun prog w A R s h => by
    obtain ⟨hp, g, d, tk, os⟩ := s
    obtain ⟨h1, h⟩ := h
    have hsub := sub_enumerate
    have q1 : ∀ {A' : Around} {E : Value → Shared → Prop} {Q : Value → Shared → Prop}, Q (.ref hp.objs.size) ⟨hp.push { cls := .type "tuple_iterator", data := .fields #[.ref a, .int 0 0] }, g, d, tk, os⟩ → wpAny (model prog w) A' (pyIter (.ref a)) Q E ⟨hp, g, d, tk, os⟩ :=
      fun q => (begins_tuple a its).iter prog w _ _ ⟨hp, g, d, tk, os⟩ _ h1 q
    wp_walk using q1
    refine wpAny_stack_any fun st => wpAny_pure ?_
    split
    · rename_i cl _ _ _ _ _
      cases (cl == Value.type "enumerate") <;>
        (wp_walk using q1; exact ⟨_, rfl, h⟩)
    · wp_walk using q1
      exact ⟨_, rfl, h⟩
theorem call_enumT {prog : Program} {w : World} {A : Around} {E : Value → Shared → Prop} {s : Shared} {a : Addr} {its : Array Value} {Q : Value → Shared → Prop} (hL : s.heap.IsTuple a its)
    (h : ∀ h', IsEnum h' (s.heap.objs.size + 1) s.heap.objs.size 0 .none → h'.IsTupleIter s.heap.objs.size a 0 → (∀ b o, s.heap.get? b = some o → h'.get? b = some o) → Q (.ref (s.heap.objs.size + 1)) { s with heap := h' }) :
    wpAny (model prog w) A (call (.type "enumerate") [.ref a]) Q E s := by
  refine callType_new F.called_enumerate (by decide) (F.typeCall_enumerate_1 _) (F.newCall_enumerate_1 _) (fun obj => F.args_object_init_2 obj _) F.entry_enumerate_new enum_newT ⟨hL, ?_⟩
  have hz : (s.heap.push { cls := .type "tuple_iterator", data := .fields #[.ref a, .int 0 0] }).objs.size = s.heap.objs.size + 1 := Heap.size_push ..
  show _ ∧ _
  rw [hz]
  have he := Heap.get?_push_size (s.heap.push { cls := .type "tuple_iterator", data := .fields #[.ref a, .int 0 0] }) (o := { cls := .type "enumerate", data := .fields #[.none, .bool false, .ref s.heap.objs.size, rawInt 0, .none, .none] }) rfl
  rw [hz] at he
  exact ⟨⟨_, he, rfl⟩, h _ he ⟨_, Heap.get?_push_of_some _ (Heap.get?_push_size _ rfl), rfl, rfl⟩ fun b o x => Heap.get?_push_of_some _ (Heap.get?_push_of_some _ x)⟩
/-- the tuple at a, each item in a pair of its own -/
def IteT (K : PySem.W.Frag) (a : Addr) : It where
  go i H := ∃ (xs : List V) (x : V), SqT K H a xs ∧ xs[i]? = some x
  yld i H v H' := ∃ T x, v = .ref T ∧ H T = none ∧ H' = upd H T (.tup [.int (i : Nat), x]) ∧ ∀ xs, SqT K H a xs → xs[i]? = some x
  stop i H := ∃ xs : List V, SqT K H a xs ∧ xs.length ≤ i
theorem enum_endT {prog : Program} {w : World} {A : Around} {E : Value → Shared → Prop} {s : Shared} {e it t : Addr} {i : Nat} {its : Array Value} {old : Value} {Q : Option Value → Shared → Prop} (h0 : A.handled = none)
    (he : IsEnum s.heap e it i old) (hi : s.heap.IsTupleIter it t i) (ht : s.heap.IsTuple t its) (hx : its[i]? = none) (q : ∀ h', Heap.ExtBut it s.heap h' → Q none { s with heap := h' }) : wpAny (model prog w) A (pyNext (.ref e)) Q E s := by
  have ty : s.TypeIs (.ref e) "enumerate" := ⟨_, he, rfl⟩
  unfold pyNext
  refine wpAny_bind (wpAny_attempt (wpAny_callSpecial?_slot (name := Str.ofString "__next__") ty F.slot_enumerate_next (wpAny_call_entry F.slot_enumerate_next ty F.entry_enumerate_next ?_ (F.args_enumerate_next_1 _))))
  show wpAny _ _ (field (.ref e) 2 >>= _) _ _ s
  refine wpAny_bind (wpAny_field he rfl (x := .ref it) rfl (wpAny_bind (wpAny_nextOf_tuple_end h0 hi ht hx fun h' x k hc => ?_)))
  obtain ⟨o, ho, hc⟩ := hc
  exact wpAny_bind (wpAny_isInstance (T := "StopIteration") (b := true) ⟨o, ho, hc⟩ isSubtype_stop (wpAny_pure (q _ k)))
theorem turn_enumT {P : Program} {w : World} {K : PySem.W.Frag} {elts : List Expr} {kk : Nat} {tpos : Pos} (a e it : Addr) (hea : e ≠ a) (hia : it ≠ a) (hei : e ≠ it) :
    Turn P w K (.Tuple elts kk tpos) (IteT K a) [e, it] e (fun i h => (∃ old, IsEnum h e it ((i : Nat) : Int) old) ∧ h.IsTupleIter it a i) where
  mem := by simp
  obj i h st b hb := by
    obtain ⟨⟨old, he⟩, o, ho, hc, hd⟩ := st
    rcases List.mem_cons.mp hb with z | z
    · subst z; exact ⟨_, he, fun v q => nomatch q⟩
    · rw [List.mem_singleton] at z
      subst z; exact ⟨o, ho, fun v q => by rw [hd] at q; cases q⟩
  keep i h h' st k := by
    obtain ⟨⟨old, he⟩, hi⟩ := st
    exact ⟨⟨old, k e (by simp) _ he⟩, hi.at fun o q => k it (by simp) o q⟩
  item := by
    intro X hP hw hK hc i pins s σ H E I hf st hg
    subst hP hw hK
    obtain ⟨⟨old, he⟩, hit⟩ := st
    obtain ⟨xs, x, hq, hx⟩ := hg
    obtain ⟨its, rv, p, hz⟩ := I.tuple hq
    obtain ⟨u, hu, ru⟩ := rv.get hx
    have hel : e < s.heap.objs.size := Heap.lt_size he
    have hil : it < s.heap.objs.size := by obtain ⟨_, q, _⟩ := hit; exact Heap.lt_size q
    have hlt : i < its.toArray.size := by
      have := (List.getElem?_eq_some_iff.mp hu).1
      simpa using this
    have p' : s.heap.IsTuple a its.toArray := p
    refine wpAny_pyNext_enum_itemD (Draws.tuple (A := X.A.in1) (I.ok.hd hc) it a (Ne.symm hia) its.toArray) he ⟨hit, p'⟩ hlt hei (by simp [hei, hea]) fun y h' tk hy ho st' hT hsz hk => ?_
    have ey : y = u := by
      have h1 : its.toArray[i]? = some y := hy
      rw [List.getElem?_toArray, hu] at h1
      exact (Option.some.inj h1).symm
    subst ey
    refine ⟨_, rfl, wpAny_letOwnedTupleGo_enum (s := { s with heap := h', toks := tk + 1 }) ho fun h'' he' sb => ?_⟩
    have hT2 : h''.get? s.heap.objs.size = some { cls := .type "tuple", data := .seq #[.int i tk, y] } := (sb.2 _ (Nat.ne_of_gt hel)).trans hT
    have nw : ObjOk X.prog X.w (upd H s.heap.objs.size (.tup [.int (i : Nat), x])) h'' s.heap.objs.size (.tup [.int (i : Nat), x]) :=
      ⟨show 2 ≤ sizeLine by decide, [.int i tk, y], .cons ⟨_, rfl⟩ (.cons ru .nil), ⟨_, hT2, rfl, _, rfl⟩⟩
    have I1 : Inv X pins σ (upd H s.heap.objs.size (.tup [.int (i : Nat), x])) { s with heap := h'', toks := tk + 1 } :=
      I.turnedNew (ch := [e, it]) (fun b ob hb q => by
        have ne1 : b ≠ e := fun z => hb (by simp [z])
        have ne2 : b ≠ it := fun z => hb (by simp [z])
        exact (sb.2 b ne1).trans (hk b ob ne1 ne2 q)) hf (Nat.le_refl _) nw
    refine ⟨.ref s.heap.objs.size, _, I1, rfl, ⟨_, x, rfl, I.hok.fresh (Nat.le_refl _), rfl, fun ys hy => by rw [I.tuple_inj hy hq]; exact hx⟩, ⟨⟨y, ?_⟩, st'.1.at fun o q => (sb.2 it (Ne.symm hei)).trans q⟩, fun b hb => ?_⟩
    · rw [show ((i + 1 : Nat) : Int) = (i : Int) + 1 by omega]
      exact he'
    · have hb' : b < s.heap.objs.size := by
        rcases List.mem_cons.mp hb with z | z
        · subst z; exact hel
        · rw [List.mem_singleton] at z; subst z; exact hil
      rw [upd_ne (Nat.ne_of_lt hb')]
      exact (hf b hb).1
  done := by
    intro X hP hw hK hc i pins s σ H E I hf st hg
    subst hP hw hK
    obtain ⟨⟨old, he⟩, hit⟩ := st
    obtain ⟨xs, hq, hx⟩ := hg
    obtain ⟨its, rv, p, hz⟩ := I.tuple hq
    obtain ⟨f0, f1, f2, f3, f4, f5⟩ := hf it (by simp)
    have hl := rv.length
    have p' : s.heap.IsTuple a its.toArray := p
    exact enum_endT (I.ok.hd hc) he hit p' (by simp; omega) fun h' eb => ⟨rfl, I.turned (t' := s.toks) (fun b o hb q => eb b o hb q) f0 f1 f3 f4 f5⟩
  self A i s Q E st h := by
    obtain ⟨⟨_, he⟩, _⟩ := st
    exact wpAny_pyIter_enum he h
def iEnumA (K : PySem.W.Frag) (ta : TA) : TI := fun σ H R => ta σ H fun vs H1 => ∃ a xs, vs = [.ref a] ∧ SqT K H1 a xs ∧ R (IteT K a) H1
theorem pi_enumT {X : Cx} {e : Expr} {ta : TA} {p pos tpos : Pos} {elts : List Expr} {kk : Nat} (hg : Gl X "enumerate") (hm : X.mg "enumerate" = none) (ha : PA X [e] ta) (hs : starEach [e] X.env = [(false, eval e X.env)]) :
    PI X (.Tuple elts kk tpos) (.Call (.Name "enumerate" p) [e] [] pos) (iEnumA X.K ta) := by
  refine ⟨fun pins s σ H R I h => ?_⟩
  refine Call_ (ld_blt I hg hm boot_enumerate (PyProof.Rows.callWith_type1 (thn (ha.run pos pins s σ H _ I h) fun us s1 q0 => ?_) hs rfl))
  obtain ⟨vs, H1, I1, r1, a, xs, rfl, hq, q⟩ := q0
  obtain ⟨u, rfl, r⟩ := vals1 r1
  cases r
  obtain ⟨its, rv, p', hz⟩ := I1.tuple hq
  have hal : a < s1.heap.objs.size := by obtain ⟨o, ho, _⟩ := p'; exact Heap.lt_size ho
  have p2 : s1.heap.IsTuple a its.toArray := p'
  refine call_enumT p2 fun h' he hit hk => wpAny_pyIter_enum he ?_
  have I2 : Inv X pins σ H1 { s1 with heap := h' } := I1.kept (t' := s1.toks) hk
  refine ⟨s1.heap.objs.size + 1, [s1.heap.objs.size + 1, s1.heap.objs.size], _, _, H1, rfl, I2, turn_enumT a (s1.heap.objs.size + 1) s1.heap.objs.size (Nat.ne_of_gt (Nat.lt_succ_of_lt hal)) (Nat.ne_of_gt hal) (Nat.succ_ne_self _), ⟨⟨.none, he⟩, hit⟩, fun b hb => ?_, q⟩
  have hle : s1.heap.objs.size ≤ b := by
    rcases List.mem_cons.mp hb with z | z
    · rw [z]; exact Nat.le_add_right _ _
    · rw [List.mem_singleton.mp z]; exact Nat.le_refl _
  exact I1.fpOk hle (I1.hok.fresh hle)
end MW
namespace MW
open L2 PyProof.Rows PySem.Spec PySem
section
variable {c : RC} {Ex : XK} {X : Cx} {M : Mo} {N : List Str} {sc : Scope} {top : Bool} {lvl : Nat} {C : CallS}
/-! ### what is walked -/
structure Iter (c : RC) (J : It) (l : List D) (G1 : Hp) : Prop where
  go : ∀ (i : Nat) d H G, l[i]? = some d → Gle G1 G → Sub G H → J.go i H
  yld : ∀ (i : Nat) d H G x H', l[i]? = some d → Gle G1 G → Sub G H → J.yld i H x H' → ∃ G', Grow H G H' G' [] ∧ RS c G' d x
  stop : ∀ H G, Gle G1 G → Sub G H → J.stop l.length H
def riX (c : RC) (Ex : XK) (f : Env → Out (List D)) : TI := fun σ H R => ∃ G F e, SIM c σ H G F e ∧ match f e with
  | .ok l e1 => ∀ J H1 G1 F1, SIM c σ H1 G1 F1 e1 → Step H G F H1 G1 F1 → Iter c J l G1 → R J H1
  | .exc k e1 => ∀ H1 G1 F1, SIM c σ H1 G1 F1 e1 → Step H G F H1 G1 F1 → Ex (.ref (c.cl k)) none H1
  | .bad => False
theorem pi_or {tg e : Expr} {t t' : TI} (h : PI X tg e t) (h' : PI X tg e t') : PI X tg e (fun σ H R => t σ H R ∨ t' σ H R) := ⟨fun pins s σ H R I q => q.elim (h.run pins s σ H R I) (h'.run pins s σ H R I)⟩
theorem iter_list {K : PySem.W.Frag} (hK : c.K = K) {G1 : Hp} {a : Addr} {xs : List V} {l : List D} (sq : SqL K G1 a xs) (rs : RSL c G1 l xs) : Iter c (Itl K a) l G1 := by
  refine ⟨fun i d H G hd g s => ?_, fun i d H G x H' hd g s y => ?_, fun H G g s => ?_⟩
  · obtain ⟨x, ex, _⟩ := rs.get hd
    exact ⟨xs, x, s.list (SqL.gle g sq), ex⟩
  · obtain ⟨rfl, y⟩ := y
    obtain ⟨x', ex, rx⟩ := rs.get hd
    have := y xs (s.list (SqL.gle g sq))
    rw [ex] at this; cases this
    exact ⟨G, Grow.refl s, rx.mono g⟩
  · exact ⟨xs, s.list (SqL.gle g sq), by rw [rs.len]; exact Nat.le_refl _⟩
theorem iter_tup {K : PySem.W.Frag} (hK : c.K = K) {G1 : Hp} {a : Addr} {xs : List V} {l : List D} (sq : SqT K G1 a xs) (rs : RSL c G1 l xs) : Iter c (Itt K a) l G1 := by
  refine ⟨fun i d H G hd g s => ?_, fun i d H G x H' hd g s y => ?_, fun H G g s => ?_⟩
  · obtain ⟨x, ex, _⟩ := rs.get hd
    exact ⟨xs, x, s.tup (SqT.gle g sq), ex⟩
  · obtain ⟨rfl, y⟩ := y
    obtain ⟨x', ex, rx⟩ := rs.get hd
    have := y xs (s.tup (SqT.gle g sq))
    rw [ex] at this; cases this
    exact ⟨G, Grow.refl s, rx.mono g⟩
  · exact ⟨xs, s.tup (SqT.gle g sq), by rw [rs.len]; exact Nat.le_refl _⟩
/-- what is walked, by its value -/
theorem ri_of {f : Env → Out OD} {g : OD → Env → Out (List D)} {σ : L2.St} {H : Hp} {R : It → Hp → Prop} (h : riX c Ex (fun e => (f e).bind g) σ H R) :
    rdX c Ex (repS c) f σ H (fun v H1 => ∃ G F G1 F1 e1 od, SIM c σ H1 G1 F1 e1 ∧ Step H G F H1 G1 F1 ∧ RS c G1 od.toD v ∧ match g od e1 with
      | .ok l e2 => ∀ J H2 G2 F2, SIM c σ H2 G2 F2 e2 → Step H G F H2 G2 F2 → Iter c J l G2 → R J H2
      | .exc k e2 => ∀ H2 G2 F2, SIM c σ H2 G2 F2 e2 → Step H G F H2 G2 F2 → Ex (.ref (c.cl k)) none H2
      | .bad => False) := by
  obtain ⟨G, F, e, s, r⟩ := h
  refine ⟨G, F, e, s, ?_⟩
  dsimp only at r
  revert r
  cases f e with
  | ok od e1 =>
    intro r v H1 G1 F1 Fr1 s1 st rp nd fr
    obtain ⟨rfl, rp⟩ := rp
    simp only [List.append_nil] at st
    exact ⟨G, F, G1, F1, e1, od, s1, st, rp, r⟩
  | exc k e1 => exact fun r => r
  | bad => exact fun r => r
theorem evi_seq {a : ME} : evi C (.seq a) = fun e => (ev C a e).bind fun a e => .opt (isq a.toD) e := by funext e; rfl
theorem evi_rng1 {a : ME} : evi C (.rng1 a) = fun e => (ev C a e).bind fun a e => match a.toD with
    | .int j => if -(2 ^ 62) ≤ j ∧ j < 2 ^ 62 then .ok ((List.range j.toNat).map fun (k : Nat) => .int (k : Nat)) e else .bad
    | _ => .bad := by funext e; rfl
theorem evi_rng2 {a b : ME} : evi C (.rng2 a b) = fun e => (ev C a e).bind fun a e => (ev C b e).bind fun b e => match a.toD, b.toD with
    | .int i, .int j => if (-(2 ^ 62) ≤ i ∧ i < 2 ^ 62) ∧ (-(2 ^ 62) ≤ j ∧ j < 2 ^ 62) then .ok ((List.range (j - i).toNat).map fun (k : Nat) => .int (i + (k : Nat))) e else .bad
    | _, _ => .bad := by funext e; rfl
theorem evi_enum {a : ME} : evi C (.enum a) = fun e => (ev C a e).bind fun a e => match a.toD with
    | .lst l => .ok (enumD l) e
    | .tup l => .ok (enumD l) e
    | _ => .bad := by funext e; rfl
theorem evi_keys {a : ME} : evi C (.keys a) = fun e => (ev C a e).bind fun a e => match a.toD with
    | .dk l => .ok (l.map fun p => dkey p.1) e
    | _ => .bad := by funext e; rfl
theorem evi_vals {a : ME} : evi C (.vals a) = fun e => (ev C a e).bind fun a e => match a.toD with
    | .dk l => .ok (l.map fun p => p.2) e
    | _ => .bad := by funext e; rfl
theorem evi_chars {a : ME} : evi C (.chars a) = fun e => (ev C a e).bind fun a e => match a.toD with
    | .str x => .ok (charsD x) e
    | _ => .bad := by funext e; rfl
theorem evi_zip {a b : ME} : evi C (.zip a b) = fun e => (ev C a e).bind fun a e => (ev C b e).bind fun b e => match a.toD, b.toD with
    | .lst l, .lst r => .ok (zipD l r) e
    | .tup l, .tup r => .ok (zipD l r) e
    | _, _ => .bad := by funext e; rfl
theorem pi_seq (K : Ctx M c Ex N sc top lvl X) {a : ME} {x tg : Expr} (g : Good c Ex X C a x) : PI X tg x (riX c Ex (evi C (.seq a))) := by
  refine PI.weak (pi_or (pi_list (tg := tg) g.S) (pi_tup g.S)) fun σ H R h => ?_
  rw [evi_seq] at h
  obtain ⟨G, F, e, s, r⟩ := h
  dsimp only at r
  cases q : ev C a e with
  | ok od e1 =>
    rw [q] at r
    simp only [Out.bind] at r
    have key : ∀ l, isq od.toD = some l → (∀ v H1 G1 F1, SIM c σ H1 G1 F1 e1 → Step H G F H1 G1 F1 → RS c G1 od.toD v → ∀ J, Iter c J l G1 → R J H1) := by
      intro l hl v H1 G1 F1 s1 st rs J it
      rw [hl] at r
      exact r J H1 G1 F1 s1 st it
    cases hd : od.toD with
    | tup l =>
      refine .inr ⟨G, F, e, s, ?_⟩
      rw [q]
      intro v H1 G1 F1 Fr1 s1 st rp nd fr
      obtain ⟨rfl, rp⟩ := rp
      simp only [List.append_nil] at st
      have rp2 := rp
      rw [hd] at rp2
      simp only [RS] at rp2
      obtain ⟨p, xs, rfl, sq, rl⟩ := rp2
      rw [K.hK]
      exact ⟨p, rfl, ⟨xs, s1.sub.tup sq⟩, key l (by rw [hd]; rfl) _ H1 G1 F1 s1 st rp _ (iter_tup rfl sq rl)⟩
    | lst l =>
      refine .inl ⟨G, F, e, s, ?_⟩
      rw [q]
      intro v H1 G1 F1 Fr1 s1 st rp nd fr
      obtain ⟨rfl, rp⟩ := rp
      simp only [List.append_nil] at st
      have rp2 := rp
      rw [hd] at rp2
      simp only [RS] at rp2
      obtain ⟨p, xs, rfl, sq, rl⟩ := rp2
      rw [K.hK]
      exact ⟨p, rfl, ⟨xs, .inl (s1.sub.rd sq)⟩, key l (by rw [hd]; rfl) _ H1 G1 F1 s1 st rp _ (iter_list rfl (.inl sq) rl)⟩
    | scr l =>
      refine .inl ⟨G, F, e, s, ?_⟩
      rw [q]
      intro v H1 G1 F1 Fr1 s1 st rp nd fr
      obtain ⟨rfl, rp⟩ := rp
      simp only [List.append_nil] at st
      have rp2 := rp
      rw [hd] at rp2
      simp only [RS] at rp2
      obtain ⟨p, xs, rfl, sq, rl⟩ := rp2
      rw [K.hK]
      exact ⟨p, rfl, ⟨xs, s1.sub.list sq⟩, key l (by rw [hd]; rfl) _ H1 G1 F1 s1 st rp _ (iter_list rfl sq rl)⟩
    | kt ks =>
      refine .inr ⟨G, F, e, s, ?_⟩
      rw [q]
      intro v H1 G1 F1 Fr1 s1 st rp nd fr
      obtain ⟨rfl, rp⟩ := rp
      simp only [List.append_nil] at st
      have rp2 := rp
      rw [hd] at rp2
      obtain ⟨p, rfl, q1, q2⟩ := RS.kt s1.sub rp2
      rw [K.hK]
      exact ⟨p, rfl, ⟨_, SqT.of q2⟩, key (ks.map dkey) (by rw [hd]; rfl) _ H1 G1 F1 s1 st rp _ (iter_tup rfl (SqT.of q1) (RSL_key ks))⟩
    | _ => rw [hd] at r; exact r.elim
  | exc k e1 =>
    rw [q] at r
    refine .inl ⟨G, F, e, s, ?_⟩
    rw [q]
    exact r
  | bad => rw [q] at r; exact r.elim
theorem iter_rng {G1 : Hp} (lo : Int) (n : Nat) : Iter c (Itr lo n) ((List.range n).map fun (k : Nat) => .int (lo + (k : Nat))) G1 := by
  refine ⟨fun i d H G hd g s => ?_, fun i d H G x H' hd g s y => ?_, fun H G g s => ?_⟩
  · have : i < n := by
      have := (List.getElem?_eq_some_iff.mp hd).1
      simpa using this
    exact this
  · obtain ⟨rfl, rfl⟩ := y
    rw [List.getElem?_map] at hd
    simp only [Option.map_eq_some_iff] at hd
    obtain ⟨k, hk, rfl⟩ := hd
    rw [List.getElem?_range (by have := (List.getElem?_eq_some_iff.mp hk).1; simpa using this)] at hk
    cases hk
    exact ⟨G, Grow.refl s, by simp only [RS]⟩
  · show n ≤ _
    simp
/-- one value, then an iterator -/
theorem ri_1 {f : Env → Out OD} {g : OD → Env → Out (List D)} {σ : L2.St} {H : Hp} {R : It → Hp → Prop} (h : riX c Ex (fun e => (f e).bind g) σ H R) :
    rdX c Ex (repS c) f σ H (fun v H1 => ∃ G1 F1 e1 od, SIM c σ H1 G1 F1 e1 ∧ RS c G1 od.toD v ∧ riX c Ex (g od) σ H1 R ∧ (g od e1 ≠ .bad) ∧ ∀ l, g od e1 = .ok l e1 → ∀ J, Iter c J l G1 → R J H1) := by
  refine (ri_of h).imp fun v H1 ⟨G, F, G1, F1, e1, od, s1, st, rs, r⟩ => ⟨G1, F1, e1, od, s1, rs, ⟨G1, F1, e1, s1, ?_⟩, fun z => by rw [z] at r; exact r, fun l z J it => by rw [z] at r; exact r J H1 G1 F1 s1 st it⟩
  revert r
  cases g od e1 with
  | ok l e2 => exact fun r J H2 G2 F2 s2 st2 it => r J H2 G2 F2 s2 (st.trans st2) it
  | exc k e2 => exact fun r H2 G2 F2 s2 st2 => r H2 G2 F2 s2 (st.trans st2)
  | bad => exact fun r => r
/-- two values, then an iterator -/
theorem ri_2 {f1 f2 : Env → Out OD} {g : OD → OD → Env → Out (List D)} {σ : L2.St} {H : Hp} {R : It → Hp → Prop} (h : riX c Ex (fun e => (f1 e).bind fun a e => (f2 e).bind fun b e => g a b e) σ H R) :
    rdX c Ex (repS c) f1 σ H (fun v H1 => rdX c Ex (repS c) f2 σ H1 (fun w H2 => ∃ G2 F2 e2 a b, SIM c σ H2 G2 F2 e2 ∧ RS c G2 a.toD v ∧ RS c G2 b.toD w ∧ (g a b e2 ≠ .bad) ∧ ∀ l, g a b e2 = .ok l e2 → ∀ J, Iter c J l G2 → R J H2)) := by
  obtain ⟨G, F, e, s, r⟩ := h
  refine ⟨G, F, e, s, ?_⟩
  dsimp only at r
  revert r
  cases f1 e with
  | ok od e1 =>
    intro r v H1 G1 F1 Fr1 s1 st rp nd fr
    obtain ⟨rfl, rp⟩ := rp
    simp only [List.append_nil] at st
    refine ⟨G1, F1, e1, s1, ?_⟩
    simp only [Out.bind] at r
    revert r
    cases f2 e1 with
    | ok od2 e2 =>
      intro r w H2 G2 F2 Fr2 s2 st2 rp2 nd2 fr2
      obtain ⟨rfl, rp2⟩ := rp2
      simp only [List.append_nil] at st2
      simp only [Out.bind] at r
      exact ⟨G2, F2, e2, od, od2, s2, rp.mono st2.gle, rp2, fun z => by rw [z] at r; exact r, fun l z J it => by rw [z] at r; exact r J H2 G2 F2 s2 (st.trans st2) it⟩
    | exc k e2 => exact fun r H2 G2 F2 s2 st2 => r H2 G2 F2 s2 (st.trans st2)
    | bad => exact fun r => r
  | exc k e1 => exact fun r => r
  | bad => exact fun r => r
theorem pi_rng1' (K : Ctx M c Ex N sc top lvl X) {a : ME} {x tg : Expr} {p pos : Pos} (hg : gl sc "range" = true) (g : Good c Ex X C a x) : PI X tg (.Call (.Name "range" p) [x] [] pos) (riX c Ex (evi C (.rng1 a))) := by
  refine PI.weak (pi_range1 (K.gl hg) (K.free (by decide +kernel)) (pa_cons g.S pa_nil (hs := star_cons g.ns)) (star_cons g.ns)) fun σ H R h => ?_
  rw [evi_rng1] at h
  refine (ri_1 h).imp fun v H1 ⟨G1, F1, e1, od, s1, rs, _, hb, r⟩ => ?_
  cases hd : od.toD with
  | int j =>
    rw [hd] at rs
    simp only [RS] at rs
    subst rs
    simp only [hd] at hb r
    split at hb
    · rename_i hj
      rw [if_pos hj] at r
      refine ⟨j, rfl, hj.1, hj.2, ?_⟩
      refine r _ rfl _ ?_
      have := iter_rng (c := c) (G1 := G1) 0 j.toNat
      simpa using this
    · exact absurd rfl hb
  | _ => simp only [hd] at hb; exact absurd rfl hb
theorem pi_rng2' (K : Ctx M c Ex N sc top lvl X) {a b : ME} {x y tg : Expr} {p pos : Pos} (hg : gl sc "range" = true) (g : Good c Ex X C a x) (g2 : Good c Ex X C b y) : PI X tg (.Call (.Name "range" p) [x, y] [] pos) (riX c Ex (evi C (.rng2 a b))) := by
  refine PI.weak (pi_range2 (K.gl hg) (K.free (by decide +kernel)) (pa_cons g.S (pa_cons g2.S pa_nil (hs := star_cons g2.ns)) (hs := star_cons g.ns)) (by rw [star_cons g.ns, star_cons g2.ns]; rfl) (by rw [star_cons g2.ns]; rfl)) fun σ H R h => ?_
  rw [evi_rng2] at h
  refine (ri_2 h).imp fun v H1 q => q.imp fun w H2 ⟨G2, F2, e2, oa, ob, s2, ra, rb, hb, r⟩ => ?_
  cases hd : oa.toD with
  | int i =>
    cases hd2 : ob.toD with
    | int j =>
      rw [hd] at ra; rw [hd2] at rb
      simp only [RS] at ra rb
      subst ra; subst rb
      simp only [hd, hd2] at hb r
      split at hb
      · rename_i hj
        rw [if_pos hj] at r
        refine ⟨i, j, rfl, ⟨hj.1.1, hj.1.2, hj.2.1, hj.2.2⟩, ?_⟩
        exact r _ rfl _ (iter_rng i (j - i).toNat)
      · exact absurd rfl hb
    | _ => simp only [hd, hd2] at hb; exact absurd rfl hb
  | _ => simp only [hd] at hb; exact absurd rfl hb
theorem iter_enum {K : PySem.W.Frag} (hK : c.K = K) {G1 : Hp} {a : Addr} {xs : List V} {l : List D} (sq : SqL K G1 a xs) (rs : RSL c G1 l xs) : Iter c (Ite K a) (enumD l) G1 := by
  refine ⟨fun i d H G hd g s => ?_, fun i d H G x H' hd g s y => ?_, fun H G g s => ?_⟩
  · have hi : i < l.length := by
      have := (List.getElem?_eq_some_iff.mp hd).1
      simpa [enumD] using this
    obtain ⟨x, ex, _⟩ := rs.get (List.getElem?_eq_getElem hi)
    exact ⟨xs, x, s.list (SqL.gle g sq), ex⟩
  · obtain ⟨T, x', rfl, hT, rfl, y⟩ := y
    have ex := y xs (s.list (SqL.gle g sq))
    have hi : i < l.length := by
      have := (List.getElem?_eq_some_iff.mp hd).1
      simpa [enumD] using this
    obtain ⟨x2, ex2, rx⟩ := rs.get (List.getElem?_eq_getElem hi)
    rw [ex] at ex2; cases ex2
    have ed : d = .tup [.int (i : Nat), l[i]] := by
      have : (enumD l)[i]? = some (.tup [.int (i : Nat), l[i]]) := by
        simp [enumD, List.getElem?_map, List.getElem?_zipIdx, List.getElem?_eq_getElem hi]
      rw [hd] at this; exact Option.some.inj this
    subst ed
    have gT := s.no hT
    refine ⟨upd G T (.tup [.int (i : Nat), x']), Grow.shared s hT, ?_⟩
    simp only [RS, RSL]
    exact ⟨T, _, rfl, SqT.of upd_same, _, _, rfl, rfl, _, _, rfl, rx.mono (g.trans (Gle.upd gT)), rfl⟩
  · exact ⟨xs, s.list (SqL.gle g sq), by rw [rs.len]; simp [enumD]⟩
theorem iter_enumT {K : PySem.W.Frag} {G1 : Hp} {a : Addr} {xs : List V} {l : List D} (sq : SqT K G1 a xs) (rs : RSL c G1 l xs) : Iter c (IteT K a) (enumD l) G1 := by
  refine ⟨fun i d H G hd g s => ?_, fun i d H G x H' hd g s y => ?_, fun H G g s => ?_⟩
  · have hi : i < l.length := by
      have := (List.getElem?_eq_some_iff.mp hd).1
      simpa [enumD] using this
    obtain ⟨x, ex, _⟩ := rs.get (List.getElem?_eq_getElem hi)
    exact ⟨xs, x, s.tup (SqT.gle g sq), ex⟩
  · obtain ⟨T, x', rfl, hT, rfl, y⟩ := y
    have ex := y xs (s.tup (SqT.gle g sq))
    have hi : i < l.length := by
      have := (List.getElem?_eq_some_iff.mp hd).1
      simpa [enumD] using this
    obtain ⟨x2, ex2, rx⟩ := rs.get (List.getElem?_eq_getElem hi)
    rw [ex] at ex2; cases ex2
    have ed : d = .tup [.int (i : Nat), l[i]] := by
      have : (enumD l)[i]? = some (.tup [.int (i : Nat), l[i]]) := by
        simp [enumD, List.getElem?_map, List.getElem?_zipIdx, List.getElem?_eq_getElem hi]
      rw [hd] at this; exact Option.some.inj this
    subst ed
    have gT := s.no hT
    refine ⟨upd G T (.tup [.int (i : Nat), x']), Grow.shared s hT, ?_⟩
    simp only [RS, RSL]
    exact ⟨T, _, rfl, SqT.of upd_same, _, _, rfl, rfl, _, _, rfl, rx.mono (g.trans (Gle.upd gT)), rfl⟩
  · exact ⟨xs, s.tup (SqT.gle g sq), by rw [rs.len]; simp [enumD]⟩
theorem pi_enum' (K : Ctx M c Ex N sc top lvl X) {a : ME} {x : Expr} {elts : List Expr} {kk : Nat} {p pos tpos : Pos} (hg : gl sc "enumerate" = true) (g : Good c Ex X C a x) : PI X (.Tuple elts kk tpos) (.Call (.Name "enumerate" p) [x] [] pos) (riX c Ex (evi C (.enum a))) := by
  refine PI.weak (pi_or (pi_enum (K.gl hg) (K.free (by decide +kernel)) (pa_cons g.S pa_nil (hs := star_cons g.ns)) (star_cons g.ns)) (pi_enumT (K.gl hg) (K.free (by decide +kernel)) (pa_cons g.S pa_nil (hs := star_cons g.ns)) (star_cons g.ns))) fun σ H R h => ?_
  rw [evi_enum] at h
  obtain ⟨G0, F0, e0, s0, r0⟩ := h
  have h : riX c Ex (fun e => (ev C a e).bind fun a e => match a.toD with
    | .lst l => .ok (enumD l) e
    | .tup l => .ok (enumD l) e
    | _ => .bad) σ H R := ⟨G0, F0, e0, s0, r0⟩
  by_cases hT : ∃ od e1 l, ev C a e0 = .ok od e1 ∧ od.toD = .tup l
  · refine .inr ⟨G0, F0, e0, s0, ?_⟩
    obtain ⟨od, e1, l, q1, q2⟩ := hT
    dsimp only at r0
    rw [q1] at r0 ⊢
    simp only [Out.bind, q2] at r0
    intro v H1 G1 F1 Fr1 s1 st rp nd fr
    obtain ⟨rfl, rp⟩ := rp
    simp only [List.append_nil] at st
    rw [q2] at rp
    simp only [RS] at rp
    obtain ⟨q, xs, rfl, sq, rl⟩ := rp
    rw [K.hK]
    exact ⟨q, xs, rfl, s1.sub.tup sq, r0 _ H1 G1 F1 s1 st (iter_enumT sq rl)⟩
  · refine .inl ⟨G0, F0, e0, s0, ?_⟩
    dsimp only at r0
    cases q1 : ev C a e0 with
    | ok od e1 =>
      rw [q1] at r0
      simp only [Out.bind] at r0
      intro v H1 G1 F1 Fr1 s1 st rp nd fr
      obtain ⟨rfl, rp⟩ := rp
      simp only [List.append_nil] at st
      cases hd : od.toD with
      | lst l =>
        rw [hd] at rp r0
        simp only [RS] at rp
        obtain ⟨q, xs, rfl, sq, rl⟩ := rp
        rw [K.hK]
        exact ⟨q, xs, rfl, .inl (s1.sub.rd sq), r0 _ H1 G1 F1 s1 st (iter_enum rfl (.inl sq) rl)⟩
      | tup l => exact absurd ⟨od, e1, l, q1, hd⟩ hT
      | _ => rw [hd] at r0; exact r0.elim
    | exc k e1 => rw [q1] at r0; exact r0
    | bad => rw [q1] at r0; exact r0.elim
/-! a dict walked: it is locked from then on -/
def tLk (t : TE) : TE := fun σ H Q => t σ H fun x H1 => (∃ d kvs, x = .ref d ∧ H1 d = some (.dK kvs) ∧ ∀ o, Q x (upd H1 d (.frz o (.dK kvs)))) ∨ Q x H1
theorem pe_lk {e : Expr} {t : TE} (h : PE X e t) : PE X e (tLk t) := by
  refine ⟨fun pins s σ H Q I q => thn (h.run pins s σ H _ I q) fun u s1 z => ?_⟩
  obtain ⟨x, H1, I1, rx, q1⟩ := z
  rcases q1 with ⟨d, kvs, rfl, hd, q1⟩ | q1
  · obtain ⟨od, I2⟩ := I1.lock hd trivial
    exact ⟨.ref d, _, I2, rx, q1 od⟩
  · exact ⟨x, H1, I1, rx, q1⟩
/-- a shared dict is locked -/
theorem SIM.lock {σ : L2.St} {H HB GB G : Hp} {F FB : List Addr} {e : Env} (s : SIM c σ H G F e) (st : Step HB GB FB H G F) {d : Addr} {kvs : List (Key × V)} (hd : G d = some (.dK kvs)) (o : Obj) :
    SIM c σ (upd H d (.frz o (.dK kvs))) (upd G d (.frz o (.dK kvs))) F e ∧ Step HB GB FB (upd H d (.frz o (.dK kvs))) (upd G d (.frz o (.dK kvs))) F := by
  have nF : ∀ a ∈ F, a ≠ d := fun a ha z => by subst z; rw [s.gf _ ha] at hd; cases hd
  have le : Gle G (upd G d (.frz o (.dK kvs))) := fun a u q => by
    by_cases z : a = d
    · subst z
      rw [hd] at q
      cases q
      exact .inr ⟨trivial, o, upd_same⟩
    · exact .inl (by rw [upd_ne z]; exact q)
  have gd : ∀ a, upd G d (.frz o (.dK kvs)) a = none → a ≠ d ∧ G a = none := fun a q => by
    by_cases z : a = d
    · subst z; rw [upd_same] at q; cases q
    · rw [upd_ne z] at q; exact ⟨z, q⟩
  refine ⟨⟨fun a u q => ?_, REnv.mono le (fun a ha u q => by rw [upd_ne (nF a ha)]; exact q) s.ren, s.nd, fun a ha => ?_⟩, ⟨fun a u q n hf gn => ?_, fun a q => ?_, st.gle.trans le, st.fF, fun a q => ?_⟩⟩
  · by_cases z : a = d
    · subst z; rw [upd_same] at q ⊢; cases q; exact .inl ⟨rfl, trivial⟩
    · rw [upd_ne z] at q ⊢
      have ph : plainH (H d) := fun u hu => by
        rcases s.sub d _ hd with ⟨z, _⟩ | ⟨_, ob, z⟩ | ⟨_, z, _⟩
        · rw [z] at hu; cases hu; trivial
        · rw [z] at hu; cases hu; trivial
        · cases z
      exact (s.sub a u q).imp id (Or.imp id fun ⟨y, z, t⟩ => ⟨y, z, (t.upd ph).mono le⟩)
  · rw [upd_ne (nF a ha)]; exact s.gf a ha
  · obtain ⟨z, gn⟩ := gd a gn
    rw [upd_ne z]; exact st.keep a u q n hf gn
  · by_cases z : a = d
    · subst z; rw [upd_same]; simp
    · rw [upd_ne z]; exact st.some a q
  · by_cases z : a = d
    · subst z; exact st.fG a (by rw [hd]; simp)
    · rw [upd_ne z] at q; exact st.fG a q
theorem iter_keys {G1 : Hp} {d : Addr} {o : Obj} {kvs : List (Key × V)} {l : List (Key × D)} (hd : G1 d = some (.frz o (.dK kvs))) (rs : RSK c G1 l kvs) : Iter c (Itk d o kvs) (l.map fun p => dkey p.1) G1 := by
  have el : kvs.length = l.length := by have := rs.keys.len; simpa using this
  have at_ : ∀ {H G : Hp}, Gle G1 G → Sub G H → H d = some (.frz o (.dK kvs)) := fun {H G} g s => by
    rcases s _ _ (g.ex hd fun z => z) with ⟨z, _⟩ | ⟨z, _⟩ | ⟨_, z, _⟩
    · exact z
    · exact z.elim
    · cases z
  refine ⟨fun i x H G hx g s => ⟨at_ g s, ?_⟩, fun i x H G y H' hx g s q => ?_, fun H G g s => ⟨at_ g s, ?_⟩⟩
  · have := (List.getElem?_eq_some_iff.mp hx).1
    rw [List.length_map] at this
    omega
  · obtain ⟨rfl, k, v, e1, rfl⟩ := q
    obtain ⟨w, e2, rw'⟩ := rs.keys.get hx
    rw [List.getElem?_map, e1] at e2
    cases e2
    exact ⟨G, Grow.refl s, rw'.mono g⟩
  · rw [List.length_map]; omega
theorem RSK.vals {G : Hp} : ∀ {l : List (Key × D)} {xs : List (Key × V)}, RSK c G l xs → RSL c G (l.map fun p => p.2) (xs.map fun p => p.2)
  | [], xs, h => by simp only [RSK] at h; subst h; simp [RSL]
  | (k, d) :: l, xs, h => by
    simp only [RSK] at h
    obtain ⟨x, r, rfl, p, q⟩ := h
    simp only [List.map_cons, RSL]
    exact ⟨x, _, rfl, p, RSK.vals q⟩
theorem iter_vals {G1 : Hp} {d : Addr} {o : Obj} {kvs : List (Key × V)} {l : List (Key × D)} (hd : G1 d = some (.frz o (.dK kvs))) (rs : RSK c G1 l kvs) : Iter c (Itd d o kvs) (l.map fun p => p.2) G1 := by
  have el : kvs.length = l.length := by have := rs.keys.len; simpa using this
  have at_ : ∀ {H G : Hp}, Gle G1 G → Sub G H → H d = some (.frz o (.dK kvs)) := fun {H G} g s => by
    rcases s _ _ (g.ex hd fun z => z) with ⟨z, _⟩ | ⟨z, _⟩ | ⟨_, z, _⟩
    · exact z
    · exact z.elim
    · cases z
  refine ⟨fun i x H G hx g s => ⟨at_ g s, ?_⟩, fun i x H G y H' hx g s q => ?_, fun H G g s => ⟨at_ g s, ?_⟩⟩
  · have := (List.getElem?_eq_some_iff.mp hx).1
    rw [List.length_map] at this
    omega
  · obtain ⟨rfl, k, e1⟩ := q
    obtain ⟨w, e2, rw'⟩ := rs.vals.get hx
    rw [List.getElem?_map, e1] at e2
    cases e2
    exact ⟨G, Grow.refl s, rw'.mono g⟩
  · rw [List.length_map]; omega
/-- what a walk over a dict asks, both ways -/
theorem ri_dict {f : Env → Out OD} {h : D → Option (List D)} {σ : L2.St} {H : Hp} {R : It → Hp → Prop} {J : Addr → Obj → List (Key × V) → It} (hh : ∀ x l, h x = some l → ∃ m, x = .dk m)
    (it : ∀ (G1 : Hp) (d : Addr) (o : Obj) (kvs : List (Key × V)) (m : List (Key × D)) (l : List D), h (.dk m) = some l → G1 d = some (.frz o (.dK kvs)) → RSK c G1 m kvs → Iter c (J d o kvs) l G1)
    (r : riX c Ex (fun e => (f e).bind fun a e => .opt (h a.toD) e) σ H R) : tLk (rdX c Ex (repS c) f) σ H (fun x H1 => ∃ d o kvs, x = .ref d ∧ H1 d = some (.frz o (.dK kvs)) ∧ R (J d o kvs) H1) := by
  refine (ri_of r).imp fun v H1 q => ?_
  obtain ⟨G, F, G1, F1, e1, od, s1, st, rs, q⟩ := q
  cases hx : h od.toD with
  | none => rw [hx] at q; exact q.elim
  | some l =>
    rw [hx] at q
    simp only [Out.opt] at q
    obtain ⟨m, em⟩ := hh _ _ hx
    rw [em] at rs hx
    simp only [RS] at rs
    obtain ⟨d, kvs, rfl, rd, rk⟩ := rs
    have fin : ∀ o H2 G2 F2, SIM c σ H2 G2 F2 e1 → Step H G F H2 G2 F2 → Gle G1 G2 → G2 d = some (.frz o (.dK kvs)) → H2 d = some (.frz o (.dK kvs)) → ∃ d' o kvs', V.ref d = .ref d' ∧ H2 d' = some (.frz o (.dK kvs')) ∧ R (J d' o kvs') H2 := fun o H2 G2 F2 s2 st2 le h1 h2 =>
      ⟨d, o, kvs, rfl, h2, q _ H2 G2 F2 s2 st2 (it G2 d o kvs m l hx h1 (RSK.mono le rk))⟩
    rcases rd with gd | ⟨ob, gd⟩
    · have le : ∀ o, Gle G1 (upd G1 d (.frz o (.dK kvs))) := fun o a u z => by
        by_cases y : a = d
        · subst y
          rw [gd] at z
          cases z
          exact .inr ⟨trivial, o, upd_same⟩
        · exact .inl (by rw [upd_ne y]; exact z)
      rcases s1.sub _ _ gd with ⟨hd, _⟩ | ⟨_, ob, hd⟩ | ⟨_, z, _⟩
      rotate_left 2
      · cases z
      · refine .inl ⟨d, kvs, rfl, hd, fun o => ?_⟩
        obtain ⟨s2, st2⟩ := s1.lock st gd o
        exact fin o _ _ _ s2 st2 (le o) upd_same upd_same
      · obtain ⟨s2, st2⟩ := s1.lock st gd ob
        have e : upd H1 d (.frz ob (.dK kvs)) = H1 := by
          funext a
          by_cases y : a = d
          · subst y; rw [upd_same, hd]
          · rw [upd_ne y]
        rw [e] at s2 st2
        exact .inr (fin ob _ _ _ s2 st2 (le ob) upd_same hd)
    · have hd : H1 d = some (.frz ob (.dK kvs)) := by
        rcases s1.sub _ _ gd with ⟨z, _⟩ | ⟨z, _⟩ | ⟨_, z, _⟩
        · exact z
        · exact z.elim
        · cases z
      exact .inr (fin ob _ _ _ s1 st (Gle.refl _) gd hd)
def keysOf : D → Option (List D)
  | .dk l => some (l.map fun p => dkey p.1)
  | _ => none
def valsOf : D → Option (List D)
  | .dk l => some (l.map fun p => p.2)
  | _ => none
theorem pi_keys' (K : Ctx M c Ex N sc top lvl X) {a : ME} {x tg : Expr} (g : Good c Ex X C a x) : PI X tg x (riX c Ex (evi C (.keys a))) := by
  refine PI.weak (pi_keys (pe_lk g.S)) fun σ H R h => ?_
  have h : riX c Ex (fun e => (ev C a e).bind fun a e => .opt (keysOf a.toD) e) σ H R := by
    refine Eq.mp ?_ h
    rw [evi_keys]
    congr 1
    funext e
    congr 1
    funext od e
    cases od.toD <;> rfl
  have := ri_dict (h := keysOf) (J := Itk) (fun x l e => by cases x <;> first | exact ⟨_, rfl⟩ | cases e) (fun G1 d o kvs m l e h1 h2 => by cases e; exact iter_keys h1 h2) h
  refine (this : tLk _ σ H _).imp fun v H1 q => ?_
  rcases q with ⟨d, kvs, rfl, hd, q⟩ | ⟨d, o, kvs, rfl, hd, q⟩
  · refine .inl ⟨d, kvs, rfl, hd, fun o => ?_⟩
    obtain ⟨d', o', kvs', e, h1, q⟩ := q o
    exact ⟨d', o', e, .inl ⟨kvs', h1, q⟩⟩
  · exact .inr ⟨d, o, rfl, .inl ⟨kvs, hd, q⟩⟩
theorem pi_vals' (K : Ctx M c Ex N sc top lvl X) {a : ME} {x tg : Expr} {apos cpos : Pos} (g : Good c Ex X C a x) (hb : noSup x = true) (hl : (apos.endLine == cpos.line) = true) : PI X tg (.Call (.Attribute x "values" apos) [] [] cpos) (riX c Ex (evi C (.vals a))) := by
  refine PI.weak (pi_values (pe_lk g.S) (base_noSup hb) hl) fun σ H R h => ?_
  have h : riX c Ex (fun e => (ev C a e).bind fun a e => .opt (valsOf a.toD) e) σ H R := by
    refine Eq.mp ?_ h
    rw [evi_vals]
    congr 1
    funext e
    congr 1
    funext od e
    cases od.toD <;> rfl
  have := ri_dict (h := valsOf) (J := Itd) (fun x l e => by cases x <;> first | exact ⟨_, rfl⟩ | cases e) (fun G1 d o kvs m l e h1 h2 => by cases e; exact iter_vals h1 h2) h
  exact this
theorem iter_chars {x : Str} {G1 : Hp} : Iter c (Its x) (charsD x) G1 := by
  have hl : (charsD x).length = x.cps.size := by unfold charsD; rw [List.length_map, Array.length_toList]
  refine ⟨fun i d H G hd g s => ?_, fun i d H G v H' hd g s y => ?_, fun H G g s => ?_⟩
  · show i < x.cps.size
    have := (List.getElem?_eq_some_iff.mp hd).1
    omega
  · obtain ⟨rfl, k, hk, rfl⟩ := y
    unfold charsD at hd
    rw [List.getElem?_map, Array.getElem?_toList, hk] at hd
    cases hd
    exact ⟨G, Grow.refl s, by simp only [RS]⟩
  · show x.cps.size ≤ _
    omega
theorem pi_chars' (K : Ctx M c Ex N sc top lvl X) {a : ME} {x tg : Expr} (g : Good c Ex X C a x) : PI X tg x (riX c Ex (evi C (.chars a))) := by
  refine PI.weak (pi_str (tg := tg) g.S) fun σ H R h => ?_
  rw [evi_chars] at h
  refine (ri_1 h).imp fun v H1 ⟨G1, F1, e1, od, s1, rs, r, nb, q⟩ => ?_
  revert nb q
  cases hd : od.toD with
  | str y =>
    intro nb q
    rw [hd] at rs
    have rs : v = .str y := rs
    exact ⟨y, rs, q _ rfl _ iter_chars⟩
  | _ => intro nb q; exact absurd rfl nb
theorem zipD_get {l r : List D} {i : Nat} {d : D} (h : (zipD l r)[i]? = some d) : ∃ a b, l[i]? = some a ∧ r[i]? = some b ∧ d = .tup [a, b] := by
  unfold zipD at h
  rw [List.getElem?_map] at h
  simp only [Option.map_eq_some_iff] at h
  obtain ⟨⟨a, b⟩, h1, rfl⟩ := h
  rw [List.getElem?_zip_eq_some] at h1
  exact ⟨a, b, h1.1, h1.2, rfl⟩
theorem iter_zip {K : PySem.W.Frag} (hK : c.K = K) {G1 : Hp} {a b : Addr} {xs ys : List V} {l r : List D} (sq : SqL K G1 a xs) (rs : RSL c G1 l xs) (sq2 : SqL K G1 b ys) (rs2 : RSL c G1 r ys) : Iter c (Itz K a b) (zipD l r) G1 := by
  refine ⟨fun i d H G hd g s => ?_, fun i d H G x H' hd g s y => ?_, fun H G g s => ?_⟩
  · obtain ⟨d1, d2, h1, h2, rfl⟩ := zipD_get hd
    obtain ⟨x, ex, _⟩ := rs.get h1
    obtain ⟨y, ey, _⟩ := rs2.get h2
    exact ⟨xs, ys, x, y, s.list (SqL.gle g sq), s.list (SqL.gle g sq2), ex, ey⟩
  · obtain ⟨d1, d2, h1, h2, rfl⟩ := zipD_get hd
    obtain ⟨T, x', y', rfl, hT, rfl, y1, y2⟩ := y
    obtain ⟨x, ex, rx⟩ := rs.get h1
    obtain ⟨z, ez, rz⟩ := rs2.get h2
    have e1 := y1 xs (s.list (SqL.gle g sq))
    have e2 := y2 ys (s.list (SqL.gle g sq2))
    rw [ex] at e1; cases e1
    rw [ez] at e2; cases e2
    have gT := s.no hT
    refine ⟨upd G T (.tup [x', y']), Grow.shared s hT, ?_⟩
    simp only [RS, RSL]
    exact ⟨T, _, rfl, SqT.of upd_same, _, _, rfl, rx.mono (g.trans (Gle.upd gT)), _, _, rfl, rz.mono (g.trans (Gle.upd gT)), rfl⟩
  · refine ⟨xs, ys, s.list (SqL.gle g sq), s.list (SqL.gle g sq2), ?_⟩
    rw [rs.len, rs2.len]
    simp only [zipD, List.length_map, List.length_zip]
    omega
theorem iter_zipT {K : PySem.W.Frag} (hK : c.K = K) {G1 : Hp} {a b : Addr} {xs ys : List V} {l r : List D} (sq : SqT K G1 a xs) (rs : RSL c G1 l xs) (sq2 : SqT K G1 b ys) (rs2 : RSL c G1 r ys) : Iter c (RZ.ItzT K a b) (zipD l r) G1 := by
  refine ⟨fun i d H G hd g s => ?_, fun i d H G x H' hd g s y => ?_, fun H G g s => ?_⟩
  · obtain ⟨d1, d2, h1, h2, rfl⟩ := zipD_get hd
    obtain ⟨x, ex, _⟩ := rs.get h1
    obtain ⟨y, ey, _⟩ := rs2.get h2
    exact ⟨xs, ys, x, y, s.tup (SqT.gle g sq), s.tup (SqT.gle g sq2), ex, ey⟩
  · obtain ⟨d1, d2, h1, h2, rfl⟩ := zipD_get hd
    obtain ⟨T, x', y', rfl, hT, rfl, y1, y2⟩ := y
    obtain ⟨x, ex, rx⟩ := rs.get h1
    obtain ⟨z, ez, rz⟩ := rs2.get h2
    have e1 := y1 xs (s.tup (SqT.gle g sq))
    have e2 := y2 ys (s.tup (SqT.gle g sq2))
    rw [ex] at e1; cases e1
    rw [ez] at e2; cases e2
    have gT := s.no hT
    refine ⟨upd G T (.tup [x', y']), Grow.shared s hT, ?_⟩
    simp only [RS, RSL]
    exact ⟨T, _, rfl, SqT.of upd_same, _, _, rfl, rx.mono (g.trans (Gle.upd gT)), _, _, rfl, rz.mono (g.trans (Gle.upd gT)), rfl⟩
  · refine ⟨xs, ys, s.tup (SqT.gle g sq), s.tup (SqT.gle g sq2), ?_⟩
    rw [rs.len, rs2.len]
    simp only [zipD, List.length_map, List.length_zip]
    omega
theorem pi_zip' (K : Ctx M c Ex N sc top lvl X) {a b : ME} {x y : Expr} {elts : List Expr} {kk : Nat} {p pos tpos : Pos} (hg : gl sc "zip" = true) (g : Good c Ex X C a x) (g2 : Good c Ex X C b y) : PI X (.Tuple elts kk tpos) (.Call (.Name "zip" p) [x, y] [] pos) (riX c Ex (evi C (.zip a b))) := by
  refine PI.weak (RZ.pi_zipA (K.gl hg) (K.free (by decide +kernel)) (pa_cons g.S (pa_cons g2.S pa_nil (hs := star_cons g2.ns)) (hs := star_cons g.ns)) (star_cons g.ns) (by rw [star_cons g2.ns]; rfl)) fun σ H R h => ?_
  rw [evi_zip] at h
  refine (ri_2 h).imp fun v H1 q => q.imp fun w H2 ⟨G2, F2, e2, oa, ob, s2, ra, rb, hb, r⟩ => ?_
  rw [K.hK]
  cases hd : oa.toD with
  | lst l =>
    cases hd2 : ob.toD with
    | lst l2 =>
      rw [hd] at ra; rw [hd2] at rb
      simp only [RS] at ra rb
      obtain ⟨q1, xs, rfl, sq1, rl1⟩ := ra
      obtain ⟨q2, ys, rfl, sq2, rl2⟩ := rb
      simp only [hd, hd2] at r
      exact ⟨q1, q2, xs, ys, rfl, .inl ⟨.inl (s2.sub.rd sq1), .inl (s2.sub.rd sq2), r _ rfl _ (iter_zip rfl (.inl sq1) rl1 (.inl sq2) rl2)⟩⟩
    | _ => simp only [hd, hd2] at hb; exact absurd rfl hb
  | tup l =>
    cases hd2 : ob.toD with
    | tup l2 =>
      rw [hd] at ra; rw [hd2] at rb
      simp only [RS] at ra rb
      obtain ⟨q1, xs, rfl, sq1, rl1⟩ := ra
      obtain ⟨q2, ys, rfl, sq2, rl2⟩ := rb
      simp only [hd, hd2] at r
      exact ⟨q1, q2, xs, ys, rfl, .inr ⟨s2.sub.tup sq1, s2.sub.tup sq2, r _ rfl _ (iter_zipT rfl sq1 rl1 sq2 rl2)⟩⟩
    | _ => simp only [hd, hd2] at hb; exact absurd rfl hb
  | _ => simp only [hd] at hb; exact absurd rfl hb
end
end MW
namespace MW
open L2 PyProof.Rows PySem.Spec PySem
section
variable {c : RC} {Ex : XK} {X : Cx} {M : Mo} {N : List Str} {sc : Scope} {top : Bool} {lvl : Nat} {C : CallS}
theorem takesN {Y : Cx} : L2N.Takes Y (fun cls d _ H => E0 cls d H) := fun u s h => by
  obtain ⟨_, _, _, _, _, _, _, _, _, _, _, _, _, _, _, _, z⟩ := h
  exact False.elim z
theorem blkCtx (K : Ctx M c Ex N sc top lvl X) (scope : Scope) (s : Shared) (H : Hp) (C0 : Addr) (cl : List (Str × Addr)) (fp : List Addr) : Ctx M c E0 N (relS scope sc) false lvl (X.blk s H scope (compEnvC scope cl C0 X.env) fp) where
  p := K.p
  w := K.w
  k := K.k
  mg := K.mg
  base := K.base
  ck := K.ck
  n := K.n
  nd := K.nd
  sc := by rw [← K.sc]; rfl
  calm := K.calm
  room := K.room
  fn := fun h => by cases h
  st := fun h => by cases h
  fr := fun h => by cases h
  po := PassesOwn.never
  tk := takesN
  bl := K.bl
  tab := fun h => by cases h
theorem wipe_get : ∀ {vs : List Nat} {σ : L2.St} {i : Nat}, (wipe σ vs)[i]? = if i ∈ vs ∧ i < σ.length then some none else σ[i]?
  | [], σ, i => by simp [wipe]
  | v :: vs, σ, i => by
    simp only [wipe]
    by_cases h : v = i
    · subst h
      by_cases hl : v < σ.length
      · rw [List.getElem?_set_self (by rw [wipe_length]; exact hl), if_pos ⟨by simp, hl⟩]
      · rw [List.getElem?_eq_none (by rw [List.length_set, wipe_length]; omega), if_neg (by omega), List.getElem?_eq_none (by omega)]
    · rw [List.getElem?_set_ne h, wipe_get]
      have : (i ∈ v :: vs) ↔ i ∈ vs := by simp [Ne.symm h]
      simp only [this]
theorem wipeE_get : ∀ {vs : List Nat} {σ : Env} {i : Nat}, (wipeE vs σ)[i]? = if i ∈ vs ∧ i < σ.length then some none else σ[i]?
  | [], σ, i => by simp [wipeE]
  | v :: vs, σ, i => by
    have len : ∀ (vs : List Nat) (σ : Env), (wipeE vs σ).length = σ.length := fun vs σ => by
      induction vs with
      | nil => rfl
      | cons w ws ih => simp [wipeE, ih]
    simp only [wipeE]
    by_cases h : v = i
    · subst h
      by_cases hl : v < σ.length
      · rw [List.getElem?_set_self (by rw [len]; exact hl), if_pos ⟨by simp, hl⟩]
      · rw [List.getElem?_eq_none (by rw [List.length_set, len]; omega), if_neg (by omega), List.getElem?_eq_none (by omega)]
    · rw [List.getElem?_set_ne h, wipeE_get]
      have : (i ∈ v :: vs) ↔ i ∈ vs := by simp [Ne.symm h]
      simp only [this]
theorem wipeE_len : ∀ (vs : List Nat) (σ : Env), (wipeE vs σ).length = σ.length
  | [], σ => rfl
  | w :: ws, σ => by simp [wipeE, wipeE_len ws σ]
theorem backE_len (old : Env) : ∀ (vs : List Nat) (σ : Env), (backE old vs σ).length = σ.length
  | [], σ => rfl
  | w :: ws, σ => by simp [backE, backE_len old ws σ]
theorem backE_get {old : Env} : ∀ {vs : List Nat} {σ : Env} {i : Nat}, (backE old vs σ)[i]? = if i ∈ vs ∧ i < σ.length then some (old.getD i none) else σ[i]?
  | [], σ, i => by simp [backE]
  | v :: vs, σ, i => by
    simp only [backE]
    by_cases h : v = i
    · subst h
      by_cases hl : v < σ.length
      · rw [List.getElem?_set_self (by rw [backE_len]; exact hl), if_pos ⟨by simp, hl⟩]
      · rw [List.getElem?_eq_none (by rw [List.length_set, backE_len]; omega), if_neg (by omega), List.getElem?_eq_none (by omega)]
    · rw [List.getElem?_set_ne h, backE_get]
      have : (i ∈ v :: vs) ↔ i ∈ vs := by simp [Ne.symm h]
      simp only [this]
theorem wipeOk_at {own : List Nat} {e : Env} (h : wipeOk own e = true) {i : Nat} (hi : i ∈ own) : plainS e[i]? := by
  unfold wipeOk at h
  have := List.all_eq_true.mp h i hi
  revert this
  cases q : e[i]? with
  | none => intro z; cases z
  | some o =>
    cases o with
    | none => exact fun _ => .inl rfl
    | some od => cases od <;> first | exact fun _ => .inr ⟨_, rfl⟩ | (intro z; cases z)
/-- a block begins: its own names forgotten -/
theorem SIM.wipe {σ : L2.St} {H G : Hp} {F : List Addr} {e : Env} {own : List Nat} (s : SIM c σ H G F e) (h : wipeOk own e = true) : SIM c (L2.wipe σ own) H G F (wipeE own e) := by
  refine ⟨s.sub, s.ren.swap (wipeE_len _ _) (wipe_length _ _) fun i => ?_, s.nd, s.gf⟩
  have hl := s.ren.len
  by_cases hi : i ∈ own
  · by_cases hb : i < e.length
    · refine .inr ⟨wipeOk_at h hi, .inl ?_⟩
      rw [wipeE_get, if_pos ⟨hi, hb⟩]
    · refine .inl ⟨?_, ?_⟩
      · rw [wipeE_get, if_neg (by omega)]
      · rw [wipe_get, if_neg (by omega)]
  · exact .inl ⟨by rw [wipeE_get, if_neg (fun z => hi z.1)], by rw [wipe_get, if_neg (fun z => hi z.1)]⟩
/-- it ends: they are what they were -/
theorem SIM.back {σ : L2.St} {H0 H G0 G : Hp} {F0 F : List Addr} {e0 e : Env} {own : List Nat} (s0 : SIM c σ H0 G0 F0 e0) (h0 : wipeOk own e0 = true) (g : Gle G0 G) (s : SIM c (L2.wipe σ own) H G F (wipeE own e)) (hl : e.length = e0.length) : SIM c σ H G F (backE e0 own e) := by
  refine ⟨s.sub, s.ren.swap (by rw [backE_len, wipeE_len]) (by rw [wipe_length]) fun i => ?_, s.nd, s.gf⟩
  have hl2 := s0.ren.len
  by_cases hi : i ∈ own
  · by_cases hb : i < e.length
    · refine .inr ⟨.inl (by rw [wipeE_get, if_pos ⟨hi, hb⟩]), ?_⟩
      rw [backE_get, if_pos ⟨hi, hb⟩]
      rcases wipeOk_at h0 hi with q | ⟨d, q⟩
      · left
        rw [List.getD_eq_getElem?_getD, q]; rfl
      · right
        obtain ⟨v, Fa, Fi, Fb, e1, _, ro, _⟩ := s0.ren.get q
        simp only [RO] at ro
        exact ⟨d, v, by rw [List.getD_eq_getElem?_getD, q]; rfl, e1, ro.1.mono g⟩
    · refine .inl ⟨?_, ?_⟩
      · rw [backE_get, if_neg (by omega), wipeE_get, if_neg (by omega)]
      · rw [wipe_get, if_neg (by omega)]
  · exact .inl ⟨by rw [backE_get, if_neg (fun z => hi z.1), wipeE_get, if_neg (fun z => hi z.1)], by rw [wipe_get, if_neg (fun z => hi z.1)]⟩
theorem wipe_off {t vs : List Nat} {σ σ2 : L2.St} (ht : ∀ i ∈ t, i ∈ vs) (h : OffT t (L2.wipe σ vs) σ2) : L2.wipe σ2 vs = L2.wipe σ vs := by
  apply List.ext_getElem?
  intro i
  have hl : σ2.length = σ.length := by rw [h.1, wipe_length]
  rw [wipe_get, wipe_get, hl]
  by_cases hi : i ∈ vs
  · by_cases hb : i < σ.length
    · rw [if_pos ⟨hi, hb⟩, if_pos ⟨hi, hb⟩]
    · rw [if_neg (by omega), if_neg (by omega), List.getElem?_eq_none (by omega), List.getElem?_eq_none (by omega)]
  · rw [if_neg (fun z => hi z.1), if_neg (fun z => hi z.1), h.2 i (fun z => hi (ht i z)), wipe_get, if_neg (fun z => hi z.1)]
theorem compRun_ok {own t : List Nat} {one : Bool} {tst : Env → Out Bool} {elt : Env → Out OD} : ∀ {l : List D} {acc a : List OD} {e e' : Env}, compRun own t one tst elt l acc e = .ok a e' → wipeOk own e' = true → wipeOk own e = true
  | [], acc, a, e, e', h, w => by simp only [compRun] at h; cases h; exact w
  | d :: ds, acc, a, e, e', h, w => by
    simp only [compRun] at h
    split at h
    · cases h
    · rename_i e1 q
      split at q
      · assumption
      · cases q
theorem app_len {l : List D} {i : Nat} {d : D} (h : l[i]? = some d) : l.drop i = d :: l.drop (i + 1) := by
  obtain ⟨hi, e⟩ := List.getElem?_eq_some_iff.mp h
  rw [List.drop_eq_getElem_cons hi, e]
/-- an owned node is rewritten -/
theorem SIM.rewr {σ : L2.St} {H G : Hp} {F : List Addr} {e : Env} {p : Addr} {o : HO} (s : SIM c σ H G F e) (hp : p ∉ F) (hg : G p = none) (hl : plainH (H p)) : SIM c σ (upd H p o) G F e := by
  refine ⟨s.sub.upd hg hl, REnv.mono (Gle.refl _) (fun a ha u q => ?_) s.ren, s.nd, s.gf⟩
  have ne : a ≠ p := fun z => hp (z ▸ ha)
  rw [upd_ne ne]; exact q
theorem Step.rewr {HB GB H G : Hp} {FB FF : List Addr} {p : Addr} {o : HO} (st : Step HB GB FB H G FF) (hp : p ∈ FF) : Step HB GB FB (upd H p o) G FF := by
  refine ⟨fun a u q n hf gn => ?_, fun a q => ?_, st.gle, st.fF, st.fG⟩
  · have ne : a ≠ p := fun z => by
      subst z
      rcases st.fF a hp with h | h
      · exact hf h
      · rw [q] at h; cases h
    rw [upd_ne ne]; exact st.keep a u q n hf gn
  · by_cases e : a = p
    · subst e; rw [upd_same]; simp
    · rw [upd_ne e]; exact st.some a q
theorem agree_upd {F : List Addr} {H : Hp} {p : Addr} {o : HO} (h : p ∉ F) : AgreeOn F H (upd H p o) := fun a ha u q => by
  have ne : a ≠ p := fun z => h (z ▸ ha)
  rw [upd_ne ne]; exact q
theorem ROL.snoc {H G : Hp} {od : OD} {y : V} {F2 : List Addr} (h2 : RO c H G od y F2) : ∀ {l : List OD} {xs : List V} {F : List Addr}, ROL c H G l xs F → ROL c H G (l ++ [od]) (xs ++ [y]) (F ++ F2)
  | [], xs, F, h => by
    simp only [ROL] at h
    obtain ⟨rfl, rfl⟩ := h
    simp only [List.nil_append, ROL]
    exact ⟨y, [], F2, [], rfl, by simp, h2, rfl, rfl⟩
  | d :: l, xs, F, h => by
    simp only [ROL] at h
    obtain ⟨x, r, F1, F3, rfl, rfl, p, q⟩ := h
    simp only [List.cons_append, ROL]
    exact ⟨x, r ++ [y], F1, F3 ++ F2, rfl, by simp, p, ROL.snoc h2 q⟩
end
end MW
namespace MW
open L2 PyProof.Rows PySem.Spec PySem
section
variable {c : RC} {Ex : XK} {X : Cx} {M : Mo} {N : List Str} {sc : Scope} {top : Bool} {lvl : Nat} {C : CallS}
theorem ev_comp {sl : Bool} {own t : List Nat} {one : Bool} {it : MI} {cond : MO} {elt : ME} : ev C (.comp sl own t one it cond elt) = fun e => (evi C it e).bind fun l e => match compRun own t one (evo C cond) (sealO sl (ev C elt)) l [] e with
      | .ok acc e1 => if wipeOk own e && wipeOk own e1 then .ok (.ol acc) (backE e own e1) else .bad
      | _ => .bad := by funext e; rfl
theorem ri_at {β δ : Type} {rep : Rep β δ} {f : Env → Out (List D)} {g : List D → Env → Out β} {σ : L2.St} {H : Hp} {Q : δ → Hp → Prop} {R : It → Hp → Prop} (h : rdX c Ex rep (fun e => (f e).bind g) σ H Q)
    (k : ∀ J H0 G0 F0 H1 G1 F1 e1 l, SIM c σ H1 G1 F1 e1 → Step H0 G0 F0 H1 G1 F1 → Iter c J l G1 → rdB c Ex H0 G0 F0 rep (g l e1) σ Q → R J H1) : riX c Ex f σ H R := by
  obtain ⟨G, F, e, s, r⟩ := h
  refine ⟨G, F, e, s, ?_⟩
  dsimp only at r
  revert r
  cases f e with
  | ok l e1 => exact fun r J H1 G1 F1 s1 st it => k J H G F H1 G1 F1 e1 l s1 st it r
  | exc k e1 => exact fun r => r
  | bad => exact fun r => r
/-- the carried part across a grow -/
theorem grow_carry {HB GB H G H' G' : Hp} {FB F Fr : List Addr} {σ : L2.St} {e : Env} (s : SIM c σ H G F e) (st : Step HB GB FB H G (F ++ Fr)) (g : Grow H G H' G' []) (nd : (F ++ Fr).Nodup) (fr : ∀ a ∈ Fr, G a = none) (th : ∀ a ∈ Fr, ∃ o, H a = some o ∧ nt o) :
    SIM c σ H' G' F e ∧ Step HB GB FB H' G' (F ++ Fr) ∧ AgreeOn Fr H H' ∧ (∀ a ∈ Fr, G' a = none) := by
  obtain ⟨s2, st2, nd2, fr2⟩ := s.grow g
  simp only [List.append_nil] at st2
  obtain ⟨a, b, d, f⟩ := st.carry st2 nd fr th s.nd
  exact ⟨s2, a, b, f⟩
def LcW (c : RC) (own t : List Nat) (one : Bool) (tst : Env → Out Bool) (elt : Env → Out OD) (σ : L2.St) (HB GB : Hp) (FB : List Addr) (G1 : Hp) (l : List D) (D0 : Addr) (accE : List OD) (eE : Env) (n : Nat) (i : Nat) (m : Nat) (H : Hp) : Prop :=
  m = l.length - i ∧ i ≤ l.length ∧ ∃ G F Fd acc e, SIM c (L2.wipe σ own) H G F (wipeE own e) ∧ e.length = n ∧ RO c H G (.ol acc) (.ref D0) (D0 :: Fd) ∧ Step HB GB FB H G (F ++ (D0 :: Fd)) ∧ (F ++ (D0 :: Fd)).Nodup ∧ (∀ x ∈ D0 :: Fd, G x = none) ∧ Gle G1 G ∧
    compRun own t one tst elt (l.drop i) acc e = .ok accE eE
theorem ev_len_keep : True := trivial
theorem ok_comp (K : Ctx M c Ex N sc top lvl X) {sl : Bool} {own t : List Nat} {one : Bool} {it : MI} {cond : MO} {elt : ME} {x tg iter : Expr} {ifs : List Expr} {scope : Scope}
    (hblk : blkC N sc scope (own.map fun i => (N.getD i Str.empty, i)) = true) (hto : t.all (fun i => own.contains i) = true)
    (hi : PI X tg iter (riX c Ex (evi C it)))
    (ht : ∀ X', Ctx M c E0 N (relS scope sc) false lvl X' → PTs X' ifs (rdX c E0 repB (evo C cond)))
    (he : ∀ X', Ctx M c E0 N (relS scope sc) false lvl X' → PE X' x (rdX c E0 (repO c) (sealO sl (ev C elt))))
    (hlt : ∀ e b e1, evo C cond e = .ok b e1 → e1.length = e.length) (hle : ∀ e b e1, sealO sl (ev C elt) e = .ok b e1 → e1.length = e.length) (hls : ∀ d e e1, setT t one d e = some e1 → e1.length = e.length) :
    ∃ t', (∀ σ H Q, rdX c Ex (repO c) (ev C (.comp sl own t one it cond elt)) σ H Q → t' σ H Q) ∧ t' = tLc (riX c Ex (evi C it)) (gT c.K t one) (rdX c E0 repB (evo C cond)) (rdX c E0 (repO c) (sealO sl (ev C elt))) own := by
  refine ⟨_, fun σ H Q h => ?_, rfl⟩
  rw [ev_comp] at h
  refine ri_at h fun J HB GB FB H1 G1 F1 e1 l s1 st1 itr r => ?_
  intro D0 hD
  cases hc : compRun own t one (evo C cond) (sealO sl (ev C elt)) l [] e1 with
  | exc k e2 => rw [hc] at r; exact r.elim
  | bad => rw [hc] at r; exact r.elim
  | ok accE eE =>
    rw [hc] at r
    dsimp only at r
    by_cases hw : (wipeOk own e1 && wipeOk own eE) = true
    · rw [if_pos hw] at r
      simp only [Bool.and_eq_true] at hw
      obtain ⟨hw1, hw2⟩ := hw
      have htv : ∀ i ∈ t, i ∈ own := fun i hi => by simpa using List.all_eq_true.mp hto i hi
      obtain ⟨s2, st2, nd2, fr2⟩ := (s1.wipe hw1).grow (Grow.own (o := .lst []) s1.sub hD)
      refine ⟨LcW c own t one (evo C cond) (sealO sl (ev C elt)) σ HB GB FB G1 l D0 accE eE e1.length, ⟨l.length, by omega, Nat.zero_le _, G1, F1, [], [], e1, s2, rfl, ?_, st1.trans st2, nd2, fr2, Gle.refl _, by simpa using hc⟩, ?_⟩
      · simp only [RO]; exact ⟨D0, [], [], rfl, upd_same, by simp only [ROL]; exact ⟨trivial, trivial⟩, rfl⟩
      · rintro i m Hc ⟨rfl, hi, G, F, Fd, acc, e, s, hel, ro, st, nd, fr, g1, hcr⟩
        cases hd : l[i]? with
        | none =>
          have e0 : i = l.length := by rw [List.getElem?_eq_none_iff] at hd; omega
          subst e0
          left
          refine ⟨itr.stop _ _ g1 s.sub, ?_⟩
          rw [List.drop_length] at hcr
          simp only [compRun] at hcr
          cases hcr
          refine r _ _ G F (D0 :: Fd) (SIM.back s1 hw1 g1 s hel) st ro nd fr
        | some d =>
          have hlt' : i < l.length := (List.getElem?_eq_some_iff.mp hd).1
          right
          refine ⟨itr.go i d _ _ hd g1 s.sub, fun H' => ∃ m', m' < l.length - i ∧ LcW c own t one (evo C cond) (sealO sl (ev C elt)) σ HB GB FB G1 l D0 accE eE e1.length (i + 1) m' H', fun _ q => q, fun v H' y => ?_⟩
          obtain ⟨G', gr, rv⟩ := itr.yld i d _ _ v H' hd g1 s.sub y
          obtain ⟨s', st', ag', fr'⟩ := grow_carry s st gr nd fr (RO.there ro)
          have ro' := RO.mono gr.gle ag' ro
          rw [app_len hd] at hcr
          simp only [compRun] at hcr
          have hwe : wipeOk own e = true := by
            by_cases z : wipeOk own e = true
            · exact z
            · rw [if_neg z] at hcr; cases hcr
          rw [if_pos hwe] at hcr
          cases hst : setT t one d (wipeE own e) with
          | none => rw [hst] at hcr; cases hcr
          | some e2 =>
            rw [hst] at hcr
            dsimp only at hcr
            have l2 : e2.length = e1.length := by rw [hls _ _ _ hst, wipeE_len, hel]
            refine gT_ok rv s' hst fun σ2 F2 s2 mem off => ?_
            have nd2 : (F2 ++ (D0 :: Fd)).Nodup := List.nodup_append.mpr ⟨s2.nd, (List.nodup_append.mp nd).2.1, fun a h1 b h2 e => (List.nodup_append.mp nd).2.2 a (mem a h1) b h2 e⟩
            have st2 : Step HB GB FB H' G' (F2 ++ (D0 :: Fd)) := st'.less fun a h => by
              rcases List.mem_append.mp h with h | h
              · exact List.mem_append_left _ (mem a h)
              · exact List.mem_append_right _ h
            have hw2' := wipe_off htv off
            refine ⟨hw2', ⟨G', F2, e2, s2, ?_⟩⟩
            cases hte : evo C cond e2 with
            | exc k e3 => rw [hte] at hcr; cases hcr
            | bad => rw [hte] at hcr; cases hcr
            | ok b e3 =>
              rw [hte] at hcr
              intro b' H3 G3 F3 Fr3 s3 st3 rp3 nd3 fr3
              obtain ⟨rfl, rfl⟩ := repB_t rp3
              simp only [List.append_nil] at st3 nd3
              obtain ⟨st3', ag3, nd3', fr3'⟩ := st2.carry st3 nd2 fr' (RO.there ro') s3.nd
              have ro3 := RO.mono st3.gle ag3 ro'
              have l3 : e3.length = e1.length := by rw [hlt _ _ _ hte, l2]
              cases b with
              | false =>
                dsimp only at hcr
                refine iteF ⟨l.length - (i + 1), by omega, rfl, hlt', G3, F3, Fd, acc, e3, ?_, l3, ro3, st3', nd3', fr3', (g1.trans gr.gle).trans st3.gle, hcr⟩
                have := s3.wipe (compRun_ok hcr hw2)
                rw [hw2'] at this
                exact this
              | true =>
                dsimp only at hcr
                refine iteT ⟨G3, F3, e3, s3, ?_⟩
                cases hee : sealO sl (ev C elt) e3 with
                | exc k e4 => rw [hee] at hcr; cases hcr
                | bad => rw [hee] at hcr; cases hcr
                | ok od e4 =>
                  rw [hee] at hcr
                  dsimp only at hcr
                  intro y' H4 G4 F4 Fr4 s4 st4 ro4 nd4 fr4
                  have l4 : e4.length = e1.length := by rw [hle _ _ _ hee, l3]
                  by_cases hz : acc.length < sizeLine
                  · rw [if_pos hz] at hcr
                    have st4' : Step H3 G3 F3 H4 G4 F4 := st4.less fun a h => List.mem_append_left _ h
                    obtain ⟨st5, ag5, nd5, fr5⟩ := st3'.carry (F2 := F4 ++ Fr4) st4 nd3' fr3' (RO.there ro3) nd4
                    have ro5 := RO.mono st4.gle ag5 ro3
                    have hro := ro5
                    simp only [RO] at hro
                    obtain ⟨a0, xs, F0, e0, hD4, rl, eF⟩ := hro
                    cases e0
                    simp only [List.cons.injEq, true_and] at eF
                    subst eF
                    refine ⟨xs, hD4, by rw [rl.len]; exact hz, l.length - (i + 1), by omega, rfl, hlt', G4, F4, Fd ++ Fr4, acc ++ [od], e4, ?_, l4, ?_, ?_, ?_, ?_, ((g1.trans gr.gle).trans st3.gle).trans st4.gle, hcr⟩
                    · have := (s4.wipe (compRun_ok hcr hw2)).rewr (p := D0) (o := .lst (xs ++ [y'])) (fun z => ?_) (fr5 D0 (by simp)) (by rw [hD4]; exact .some trivial)
                      · rw [hw2'] at this
                        exact this
                      · exact (List.nodup_append.mp nd5).2.2 D0 (by simp [z]) D0 (by simp) rfl
                    · simp only [RO]
                      have n1 : D0 ∉ Fd := (List.nodup_cons.mp (List.nodup_append.mp nd5).2.1).1
                      have n2 : D0 ∉ Fr4 := fun z => (List.nodup_append.mp nd5).2.2 D0 (by simp [z]) D0 (by simp) rfl
                      exact ⟨D0, xs ++ [y'], Fd ++ Fr4, rfl, upd_same, ROL.snoc (RO.mono (Gle.refl _) (agree_upd n2) ro4) (ROL.mono (Gle.refl _) (agree_upd n1) rl), rfl⟩
                    · refine (st5.less fun a h => ?_).rewr (by simp)
                      simp only [List.mem_append, List.mem_cons] at h ⊢
                      rcases h with h | h | h | h <;> simp [h]
                    · refine (List.Perm.nodup_iff ?_).mp nd5
                      rw [List.append_assoc]
                      refine List.Perm.append_left _ ?_
                      exact (List.perm_append_comm (l₁ := Fr4) (l₂ := D0 :: Fd))
                    · intro z hz
                      simp only [List.mem_cons, List.mem_append] at hz
                      rcases hz with h | h | h
                      · exact fr5 z (by simp [h])
                      · exact fr5 z (by simp [h])
                      · exact fr4 z h
                  · rw [if_neg hz] at hcr; cases hcr
    · rw [if_neg hw] at r; exact r.elim
end
end MW
namespace MW
open L2 PyProof.Rows PySem.Spec PySem
section
variable {c : RC} {Ex : XK} {X : Cx} {M : Mo} {N : List Str} {sc : Scope} {top : Bool} {lvl : Nat} {C : CallS} {fn : Nm} {np : Nat → Nat}
theorem ok_glb (K : Ctx M c Ex N sc top lvl X) (W : CallOk M c C lvl fn np) {y : Str} {d : D} {x : Expr} (h : mGlb fn sc y d x = true) : Good c Ex X C (.glb y d) x := by
  unfold mGlb at h
  split at h
  · rename_i z pos
    simp only [Bool.and_eq_true, decide_eq_true_eq, Bool.not_eq_true'] at h
    obtain ⟨⟨⟨hg, rfl⟩, hd⟩, hz⟩ := h
    split at hd
    · rename_i d' e
      obtain ⟨v, u, hm, r, rs⟩ := W.gc _ _ e
      have ed : d' = d := by
        cases d' <;> cases d <;> simp [eqC] at hd <;> subst hd <;> rfl
      subst ed
      refine .plain K.hK (PE.weak (pe_glob (K.gl hg) (by rw [K.mg]; exact hm) r hz) fun σ H Q q => ?_) rfl rfl (fun j e => by cases e)
      obtain ⟨G, F, e0, s, q⟩ := q
      exact rd_end s Step.refl q (rs G)
    · cases hd
  · cases h
theorem Grow.odk {H G : Hp} {p : Addr} (s : Sub G H) (h : H p = none) (t : Bool) : RO c (upd H p (if t then .dT [] else .dK [])) G (if t then .odt [] else .odk []) (.ref p) [p] := by
  cases t with
  | true => simp only [if_true, RO]; exact ⟨p, [], [], rfl, upd_same, by simp [ROT], rfl⟩
  | false => simp only [Bool.false_eq_true, if_false, RO]; exact ⟨p, [], [], rfl, upd_same, by simp [ROK], rfl⟩
theorem ok_dnew (K : Ctx M c Ex N sc top lvl X) {t : Bool} {x : Expr} (h : mDnew x = true) : Good c Ex X C (.dnew t) x := by
  unfold mDnew at h
  split at h
  · rename_i pos
    have key : ∀ σ H Q, rdX c Ex (repO c) (ev C (.dnew t)) σ H Q → ∀ p, H p = none → Q (.ref p) (upd H p (if t then .dT [] else .dK [])) := fun σ H Q q p hp => by
      obtain ⟨G, F, e, s, q⟩ := q
      obtain ⟨s2, st2, nd2, fr2⟩ := s.grow (Grow.own (o := if t then .dT [] else .dK []) s.sub hp)
      exact q _ _ _ _ [p] s2 st2 (Grow.odk s.sub hp t) nd2 fr2
    refine .plain K.hK ?_ rfl rfl (fun j e => by cases e)
    cases t with
    | true => exact PE.weak pe_dnewT fun σ H Q q => key σ H Q q
    | false => exact PE.weak pe_dnewK fun σ H Q q => key σ H Q q
  · cases h
theorem ev_get3 {a k d : ME} : ev C (.get3 a k d) = fun e => (MW.opd a (ev C a) e).bind fun a e => match a.res e with
    | some (.dk _) => (ev C k e).bind fun k e => (match keyD k.toD with
      | some k => (ev C d e).bind fun d e => (match a.res e with
        | some (.dk l) => .ok (.s ((valO l k).getD d.toD)) e
        | _ => .bad)
      | none => .bad)
    | some (.dt _) => (ev C k e).bind fun k e => (match keyT k.toD with
      | some k => (ev C d e).bind fun d e => (match a.res e with
        | some (.dt l) => .ok (.s ((valO l k).getD d.toD)) e
        | _ => .bad)
      | none => .bad)
    | _ => .bad := by funext e; rfl
theorem keyT_later {G2 G3 H3 : Hp} {F3 : List Addr} {σ : L2.St} {e3 : Env} {d : D} {k : List Key} {b : Addr} (e : keyT d = some k) (h : RS c G2 d (.ref b)) (g : Gle G2 G3) (s : SIM c σ H3 G3 F3 e3) : H3 b = some (.tup (k.map kV)) := by
  obtain ⟨b', z, hb⟩ := keyT_rt s.sub ((RS.mono g h).top s.sub) e
  cases z
  exact hb
theorem ok_get3 (K : Ctx M c Ex N sc top lvl X) {a k d : ME} {ra rk rd : Expr → Bool} (hra : ∀ y, ra y = true → Good c Ex X C a y ∧ noSup y = true) (hrk : ∀ y, rk y = true → Good c Ex X C k y) (hrd : ∀ y, rd y = true → Good c Ex X C d y) {x : Expr} (h : mGet3 ra rk rd x = true) :
    Good c Ex X C (.get3 a k d) x := by
  unfold mGet3 at h
  split at h
  · rename_i y m apos z w pos
    simp only [Bool.and_eq_true, decide_eq_true_eq] at h
    obtain ⟨⟨⟨⟨rfl, hl⟩, ha⟩, hk⟩, hd⟩ := h
    obtain ⟨ga, hb⟩ := hra _ ha
    have gk := hrk _ hk
    have gd := hrd _ hd
    have hu := K.hu
    have m2 : M2 X y "get" apos z w pos := by
      refine ⟨base_noSup hb, ?_, hl, ?_⟩
      · rw [star_cons gk.ns, star_cons gd.ns]; rfl
      · rw [star_cons gk.ns, star_cons gd.ns]; rfl
    refine .plain K.hK (PE.weak (pe_dget2 (by omega) ga.opd gk.S gd.S m2) fun σ H Q q => ?_) rfl rfl (fun j e => by cases e)
    rw [ev_get3] at q
    obtain ⟨G, F, e, s, q⟩ := q
    refine (rd_at (rep1 := repP c) s Step.refl q).imp fun v H1 q => ?_
    obtain ⟨G1, F1, Fr1, e1, o, s1, _, st1, rp1, nd1, fr1, q, _⟩ := q
    have hf : Fr1 = [] := by cases o <;> exact rp1.1
    subst hf
    simp only [List.append_nil] at st1
    split at q
    · rename_i l0 hl0
      obtain ⟨b, kvs0, rfl, rdd0, rk0⟩ := opd_top s1 (Gle.refl _) rp1 hl0
      refine ⟨b, rfl, .inl ⟨kvs0, rdd0⟩, (rd_at (rep1 := repS c) s1 st1 q).imp fun v2 H2 q => ?_⟩
      obtain ⟨G2, F2, Fr2, e2, o2, s2, g2, st2, rp2, nd2, fr2, q, _⟩ := q
      obtain ⟨rfl, rp2⟩ := rp2
      simp only [List.append_nil] at st2 g2
      split at q
      · rename_i kk hk'
        obtain rfl := keyD_rt (rp2.top s2.sub) hk'
        refine (rd_at (rep1 := repS c) s2 st2 q).imp fun v3 H3 q => ?_
        obtain ⟨G3, F3, Fr3, e3, o3, s3, g3, st3, rp3, nd3, fr3, q, _⟩ := q
        obtain ⟨rfl, rp3⟩ := rp3
        simp only [List.append_nil] at st3 g3
        split at q
        · rename_i l hl'
          obtain ⟨b2, kvs, e4, rdd, rk'⟩ := opd_top s3 (g2.gle.trans g3.gle) rp1 hl'
          cases e4
          refine ⟨valV kvs kk, .inl ⟨kvs, kk, rdd, rfl, rfl⟩, ?_⟩
          refine rd_end s3 st3 q ?_
          rcases rk'.val kk with ⟨h1, h2⟩ | ⟨dd, w, h1, h2, rw'⟩
          · rw [h1, h2]; exact rp3
          · rw [h1, h2]; exact rw'
        · exact q.elim
      · exact q.elim
    · rename_i l0 hl0
      obtain ⟨b, kvs0, rfl, rdd0, rk0⟩ := opd_top s1 (Gle.refl _) rp1 hl0
      refine ⟨b, rfl, .inr ⟨kvs0, rdd0⟩, (rd_at (rep1 := repS c) s1 st1 q).imp fun v2 H2 q => ?_⟩
      obtain ⟨G2, F2, Fr2, e2, o2, s2, g2, st2, rp2, nd2, fr2, q, _⟩ := q
      obtain ⟨rfl, rp2⟩ := rp2
      simp only [List.append_nil] at st2 g2
      split at q
      · rename_i kk hk'
        obtain ⟨b5, rfl, hb5⟩ := keyT_rt s2.sub (rp2.top s2.sub) hk'
        refine (rd_at (rep1 := repS c) s2 st2 q).imp fun v3 H3 q => ?_
        obtain ⟨G3, F3, Fr3, e3, o3, s3, g3, st3, rp3, nd3, fr3, q, _⟩ := q
        obtain ⟨rfl, rp3⟩ := rp3
        simp only [List.append_nil] at st3 g3
        split at q
        · rename_i l hl'
          obtain ⟨b2, kvs, e4, rdd, rk'⟩ := opd_top s3 (g2.gle.trans g3.gle) rp1 hl'
          cases e4
          refine ⟨valV kvs kk, .inr ⟨kvs, kk, b5, rdd, rfl, keyT_later hk' rp2 g3.gle s3, rfl⟩, ?_⟩
          refine rd_end s3 st3 q ?_
          rcases rk'.val kk with ⟨h1, h2⟩ | ⟨dd, w, h1, h2, rw'⟩
          · rw [h1, h2]; exact rp3
          · rw [h1, h2]; exact rw'
        · exact q.elim
      · exact q.elim
    · exact q.elim
  · cases h
end
end MW
namespace MW
open L2 PyProof.Rows PySem.Spec PySem
section
variable {c : RC} {Ex : XK} {X : Cx} {M : Mo} {N : List Str} {sc : Scope} {top : Bool} {lvl : Nat} {C : CallS} {fn : Nm} {np : Nat → Nat}
theorem set_same {σ : L2.St} {i : Nat} {y : Option V} (h : σ[i]? = some y) : σ.set i y = σ := by
  apply List.ext_getElem?
  intro j
  by_cases hj : i = j
  · subst hj
    obtain ⟨hl, _⟩ := List.getElem?_eq_some_iff.mp h
    rw [List.getElem?_set_self hl, h]
  · rw [List.getElem?_set_ne hj]
/-- an owned list in a slot is changed where it stands; Fr: what is put in -/
theorem SIM.mutate {σ : L2.St} {H HB GB G : Hp} {F FB Fr : List Addr} {e : Env} {i : Nat} {l : List OD} (s : SIM c σ H G F e) (st : Step HB GB FB H G (F ++ Fr)) (nd : (F ++ Fr).Nodup) (fr : ∀ x ∈ Fr, G x = none) (h : e[i]? = some (some (.ol l))) :
    ∃ p xs F1, σ[i]? = some (some (.ref p)) ∧ H p = some (.lst xs) ∧ ROL c H G l xs F1 ∧ p ∉ F1 ∧ p ∉ Fr ∧ (F1 ++ Fr).Nodup ∧
      ∀ l' xs' F', ROL c (upd H p (.lst xs')) G l' xs' F' → (∀ a, a ∈ F' → a ∈ F1 ++ Fr) → F'.Nodup → ∃ F2, SIM c σ (upd H p (.lst xs')) G F2 (e.set i (some (.ol l'))) ∧ Step HB GB FB (upd H p (.lst xs')) G F2 := by
  obtain ⟨v, Fa, Fi, Fb, e1, rfl, ro, put, _⟩ := s.ren.get h
  simp only [RO] at ro
  obtain ⟨p, xs, F1, rfl, hp, rl, rfl⟩ := ro
  have nd1 := s.nd
  have hnp : p ∉ F1 ∧ p ∉ Fa ∧ p ∉ Fb := by
    rw [List.nodup_append] at nd1
    obtain ⟨n1, n2, n3⟩ := nd1
    have n2' : (p :: (F1 ++ Fb)).Nodup := by simpa using n2
    have n4 := (List.nodup_cons.mp n2').1
    exact ⟨fun z => n4 (by simp [z]), fun z => n3 p z p (by simp) rfl, fun z => n4 (by simp [z])⟩
  have hpr : p ∉ Fr := fun z => (List.nodup_append.mp nd).2.2 p (by simp) p z rfl
  have nf : (F1 ++ Fr).Nodup := by
    refine List.Nodup.sublist ?_ nd
    refine List.Sublist.append ?_ (List.Sublist.refl _)
    refine List.Sublist.trans ?_ (List.sublist_append_right _ _)
    refine List.Sublist.trans ?_ (List.sublist_append_left _ _)
    exact List.sublist_cons_self _ _
  refine ⟨p, xs, F1, e1, hp, rl, hnp.1, hpr, nf, fun l' xs' F' rl' mem nd' => ?_⟩
  have ag : AgreeOn (Fa ++ Fb) H (upd H p (.lst xs')) := agree_upd fun z => by
    rcases List.mem_append.mp z with z | z
    · exact hnp.2.1 z
    · exact hnp.2.2 z
  have hpF' : p ∉ F' := fun z => by
    rcases List.mem_append.mp (mem p z) with z | z
    · exact hnp.1 z
    · exact hpr z
  have ren := put (upd H p (.lst xs')) G (.ol l') (.ref p) (p :: F') (Gle.refl _) ag (by simp only [RO]; exact ⟨p, xs', F', rfl, upd_same, rl', rfl⟩)
  rw [set_same e1] at ren
  have gp : G p = none := s.gf p (by simp)
  have mem2 : ∀ a, a ∈ Fa ++ ((p :: F') ++ Fb) → a ∈ (Fa ++ ((p :: F1) ++ Fb)) ++ Fr := fun a ha => by
    simp only [List.mem_append, List.mem_cons] at ha ⊢
    rcases ha with h | (h | h) | h
    · simp [h]
    · simp [h]
    · rcases List.mem_append.mp (mem a h) with h | h <;> simp [h]
    · simp [h]
  refine ⟨Fa ++ ((p :: F') ++ Fb), ⟨s.sub.upd gp (by rw [hp]; exact .some trivial), ren, ?_, fun a ha => ?_⟩, (st.less mem2).rewr (by simp)⟩
  · -- no address twice
    have key : ∀ (A B : List Addr), (∀ a ∈ A, a ∈ Fa ++ Fb) → (∀ a ∈ F', a ∉ Fa ∧ a ∉ Fb) := fun _ _ _ a ha => by
      rw [List.nodup_append] at nd
      obtain ⟨m1, m2, m3⟩ := nd
      rcases List.mem_append.mp (mem a ha) with h | h
      · rw [List.nodup_append] at m1
        obtain ⟨k1, k2, k3⟩ := m1
        refine ⟨fun z => k3 a z a (by simp [h]) rfl, fun z => ?_⟩
        rw [List.nodup_append] at k2
        exact k2.2.2 a (by simp [h]) a z rfl
      · exact ⟨fun z => m3 a (by simp [z]) a h rfl, fun z => m3 a (by simp [z]) a h rfl⟩
    have kk := key [] [] (fun _ z => by cases z)
    have hab : (Fa ++ Fb).Nodup := by
      refine List.Nodup.sublist ?_ nd1
      exact List.Sublist.append (List.Sublist.refl _) (List.sublist_append_right _ _)
    rw [List.nodup_append] at hab
    obtain ⟨a1, a2, a3⟩ := hab
    refine List.nodup_append.mpr ⟨a1, List.nodup_append.mpr ⟨List.nodup_cons.mpr ⟨hpF', nd'⟩, a2, fun x hx y hy e => ?_⟩, fun x hx y hy e => ?_⟩
    · subst e
      rcases List.mem_cons.mp hx with rfl | hx
      · exact hnp.2.2 hy
      · exact (kk x hx).2 hy
    · subst e
      rcases List.mem_append.mp hy with hy | hy
      · rcases List.mem_cons.mp hy with rfl | hy
        · exact hnp.2.1 hx
        · exact (kk x hy).1 hx
      · exact a3 x hx x hy rfl
  · rcases List.mem_append.mp (mem2 a ha) with h | h
    · exact s.gf a h
    · exact fr a h
theorem ROL.last {H G : Hp} {d : D} : ∀ {l : List OD} {xs : List V} {F : List Addr}, ROL c H G l xs F → l.getLast? = some (.s d) → ∃ F' y, F'.Sublist F ∧ ROL c H G l.dropLast xs.dropLast F' ∧ xs[xs.length - 1]? = some y ∧ RS c G d y
  | [], xs, F, h, z => by cases z
  | [o], xs, F, h, z => by
    simp only [List.getLast?_singleton, Option.some.injEq] at z
    subst z
    simp only [ROL] at h
    obtain ⟨x, r, F1, F2, rfl, rfl, p, rfl, rfl⟩ := h
    simp only [RO] at p
    exact ⟨[], x, List.nil_sublist _, by simp [ROL], rfl, p.1⟩
  | o :: o2 :: l, xs, F, h, z => by
    simp only [ROL] at h
    obtain ⟨x, r, F1, F2, rfl, rfl, p, q⟩ := h
    rw [List.getLast?_cons_cons] at z
    have q' : ROL c H G (o2 :: l) r F2 := by simp only [ROL]; exact q
    obtain ⟨F3, y, sb, rl, hy, ry⟩ := ROL.last q' z
    have hr : r ≠ [] := by
      obtain ⟨x2, r2, _, _, rfl, _⟩ := q
      exact List.cons_ne_nil _ _
    obtain ⟨x2, r2, rfl⟩ := List.exists_cons_of_ne_nil hr
    refine ⟨F1 ++ F3, y, List.Sublist.append (List.Sublist.refl _) sb, ?_, ?_, ry⟩
    · rw [List.dropLast_cons_of_ne_nil (List.cons_ne_nil _ _), List.dropLast_cons_of_ne_nil (List.cons_ne_nil _ _)]
      simp only [ROL]
      exact ⟨x, _, F1, F3, rfl, rfl, p, rl⟩
    · simpa using hy
theorem ok_pop (K : Ctx M c Ex N sc top lvl X) {i : Nat} {x : Expr} (h : mPop N sc i x = true) : Good c Ex X C (.pop i) x := by
  unfold mPop at h
  split at h
  · rename_i y py m apos pos
    simp only [Bool.and_eq_true, decide_eq_true_eq] at h
    obtain ⟨⟨h1, rfl⟩, h3⟩ := h
    refine .plain K.hK (PE.weak (pe_bm0 PySem.F.plainAttrs_list PySem.F.slot_list_pop PySem.F.type_list_pop mt_pop (pe_name K h1) (hbase := rfl) (hline := h3)) fun σ H Q q => ?_) rfl rfl (fun j e => by cases e)
    obtain ⟨G, F, e, s, q⟩ := q
    simp only [ev] at q
    split at q
    · rename_i l ho
      split at q
      · rename_i d hd
        obtain ⟨p, xs, F1, e1, hp, rl, n1, n2, nf, put⟩ := s.mutate (Fr := []) (FB := F) (HB := H) (GB := G) (by rw [List.append_nil]; exact Step.refl) (by rw [List.append_nil]; exact s.nd) (fun _ z => by cases z) ho
        obtain ⟨F3, y, sb, rl3, hy, ry⟩ := rl.last hd
        refine ⟨_, e1, Or.inl ⟨rfl, xs, SqL.of hp⟩, p, xs, y, rfl, rfl, hp, hy, ?_⟩
        rw [List.append_nil] at nf
        obtain ⟨F4, s4, st4⟩ := put _ _ F3 (ROL.mono (Gle.refl _) (agree_upd fun z => n1 (sb.subset z)) rl3) (fun a ha => by rw [List.append_nil]; exact sb.subset ha) (nf.sublist sb)
        exact rd_end s4 st4 q ry
      · exact q.elim
    · exact q.elim
  · cases h
theorem ev_upper {a : ME} : ev C (.upper a) = fun e => (ev C a e).bind fun a e => match a.toD with
    | .str x => if x.length ≤ 5592405 then .ok (.s (.str (Txt.upper x))) e else .bad
    | _ => .bad := by funext e; rfl
theorem ok_upper (K : Ctx M c Ex N sc top lvl X) {a : ME} {r : Expr → Bool} (hr : ∀ y, r y = true → Good c Ex X C a y ∧ noSup y = true) {x : Expr} (h : mUpper r x = true) : Good c Ex X C (.upper a) x := by
  unfold mUpper at h
  split at h
  · rename_i y m apos pos
    simp only [Bool.and_eq_true, decide_eq_true_eq] at h
    obtain ⟨⟨rfl, h2⟩, h3⟩ := h
    obtain ⟨g, sup⟩ := hr _ h3
    refine .plain K.hK (PE.weak (pe_upper g.S (base_noSup sup) h2) fun σ H Q q => ?_) rfl rfl (fun j e => by cases e)
    rw [ev_upper] at q
    obtain ⟨G, F, e, s, q⟩ := q
    refine (rd_at (rep1 := repS c) s Step.refl q).imp fun v H1 q => ?_
    obtain ⟨G1, F1, Fr1, e1, o, s1, _, st1, ⟨rfl, rp1⟩, nd1, fr1, q, _⟩ := q
    simp only [List.append_nil] at st1
    split at q
    · rename_i z hz
      split at q
      · rename_i hl
        rw [hz] at rp1
        simp only [RS] at rp1
        subst rp1
        exact ⟨⟨_, rfl⟩, z, rfl, rfl, hl, rd_end s1 st1 q (rsStr _)⟩
      · exact q.elim
    · exact q.elim
  · cases h
end
end MW
namespace MW
open L2 PyProof.Rows PySem.Spec PySem
section
variable {c : RC} {Ex : XK} {X : Cx} {M : Mo} {N : List Str} {sc : Scope} {top : Bool} {lvl : Nat} {C : CallS}
theorem nostars : ∀ (es : List Expr) {env : PySem.Env}, es.all noStar = true → (starEach es env).any (·.1) = false
  | [], _, _ => rfl
  | z :: es, env, h => by
    simp only [List.all_cons, Bool.and_eq_true] at h
    rw [star_cons h.1]
    simp [nostars es h.2]
/-! ### a function that was handed in is called -/
theorem pe_clo {fo : Heap → Prop} {f : Addr} {pre : List V → Hp → VK → Prop} {E : XK} {i : Nat} {x : Str} {p pos : Pos} {e : Expr} {es : List Expr} {t : TA} (hat : ∀ h, fo h → PySem.W.FnAt f h)
    (run : ∀ (s : Shared) (H : Hp) (us : List Value) (vs : List V) (Q : VK) (pins : List (Addr × Obj)) (σ : L2.St), Inv X pins σ H s → Vals vs us → H f = some (.ext fo) → pre vs H Q → codeAny (model X.prog X.w) X.A (.call (.ref f) ⟨us, []⟩) (CR (L2N.CX X.prog X.w) X.stack X.prog X.w H s Q E) s)
    (hx : Passes (L2N.CX X.prog X.w) X E) (hN : X.N[i]? = some x) (hv : Vis X.env.scope x) (ha : PA X (e :: es) t) (hd : (x == ("__debug__" : Str)) = false) (hcd : (x == ("__classdict__" : Str)) = false)
    (he : starEach (e :: es) X.env = (false, eval e X.env) :: starEach es X.env) (hpl : (backTo pos (starEach es X.env)).any (·.1) = false) :
    PE X (.Call (.Name x p) (e :: es) [] pos) (fun σ H Q => σ[i]? = some (some (.ref f)) ∧ H f = some (.ext fo) ∧ t σ H fun vs H1 => H1 f = some (.ext fo) ∧ pre vs H1 Q) := by
  refine ⟨fun pins s σ H Q I h => ?_⟩
  obtain ⟨hs, hf, ht⟩ := h
  have rd := (pe_var (pos := p) hN hv hd hcd).run pins s σ H (fun w K => w = .ref f ∧ K = H) I ⟨.ref f, hs, rfl, rfl⟩
  refine wpAny_Call_Name_kw (thn rd fun u s1 ⟨_, _, I1, r1, ⟨rfl, rfl⟩⟩ => ?_)
  cases (show u = Value.ref f from r1)
  refine PySem.W.callWith_F (first := []) (hat _ (I1.hok f _ hf).1) (thn (ha.run pos pins s1 σ H _ I1 ht) fun us s2 ⟨vs, H2, I2, r, h1, q⟩ => ⟨hat _ (I2.hok f _ h1).1, ?_⟩) he hpl
  show wpAny _ _ (call (.ref f) us) _ _ _
  refine wpAny_call (codeAny_mono (run s2 H2 us vs Q pins σ I2 r h1 q) fun r s' hq => ?_)
  cases r with
  | error e => exact hx pins σ H2 s2 e s' I2 hq
  | ok fl =>
    cases fl with
    | ret u => exact I2.after hq
    | next => exact False.elim hq
    | brk => exact False.elim hq
    | cont => exact False.elim hq
theorem ev_callv {i : Nat} {l : MAs} : ev C (.callv i l) = fun e => match e[i]? with
    | some (some (.s (.clo g ws))) => (eva C l e).bind fun l e => outR (C g (l ++ ws.map .s)) e
    | _ => .bad := by funext e; rfl
theorem ok_callv (K : Ctx M c Ex N sc top lvl X) {fn : Nm} {np : Nat → Nat} (W : CallOk M c C lvl fn np) {i : Nat} {l : MAs} {r : List Expr → Bool} (hr : ∀ es, r es = true → PA X es (rdX c Ex (repA c) (eva C l)) ∧ es.all noStar = true) {x : Expr}
    (h : mCallv N sc i r x = true) : Good c Ex X C (.callv i l) x := by
  unfold mCallv at h
  split at h
  · rename_i y p0 e0 es pos
    simp only [Bool.and_eq_true] at h
    obtain ⟨hs, hr1⟩ := h
    obtain ⟨pa, hst⟩ := hr _ hr1
    obtain ⟨v1, v2, v3, v4⟩ := vis_of K hs
    simp only [List.all_cons, Bool.and_eq_true] at hst
    have pass : Passes (L2N.CX X.prog X.w) X Ex := L2N.passes_call K.tk fun _ _ _ _ h => h
    by_cases hon : c.clo.on = true
    · have hrun := W.run hon
      rw [← K.p, ← K.w, ← K.k, ← K.mg, ← K.base] at hrun
      refine .plain K.hK (PE.weak (pe_clo (f := c.clo.f) (fo := c.clo.fo) (E := Ex) (i := i) (pre := fun vs H Q => H c.clo.co = some (LamX.CodeO c.clo.co c.clo.q) ∧ spK c C vs H Q Ex) (W.fat hon)
        (fun s H us vs Q pins σ I rv hf hq => hrun X.A X.stack s H us vs Q Ex (K.room.mono (Nat.le_succ _)) I.env0 hf hq.1 rv hq.2) pass v1 v2 pa v3 v4 (star_cons hst.1) ?_) fun σ H Q h => ?_) rfl rfl (fun j e => by cases e)
      · have := nostars es (env := X.env) hst.2
        simp only [backTo, List.any_map]
        exact this
      · rw [ev_callv] at h
        obtain ⟨G, F0, e, s, h⟩ := h
        dsimp only at h
        split at h
        · rename_i g ws hi
          obtain ⟨v, Fa, Fi, Fb, e1, _, ro, _⟩ := s.ren.get hi
          simp only [RO, RS] at ro
          obtain ⟨⟨_, rfl, rfl, hf, hco, hws⟩, _⟩ := ro
          refine ⟨e1, s.sub.ext hf, (rd_at (rep1 := repA c) s Step.refl h).imp fun vs H1 q => ?_⟩
          obtain ⟨G1, F1, Fr1, e1, ods, s1, st0, st1, rp1, nd1, fr1, q, _⟩ := q
          have rp1 : ROL c H1 G1 ods vs Fr1 := rp1
          have hf1 := st0.gle.ex hf fun z => z
          have hco1 := st0.gle.ex hco fun z => z
          exact ⟨s1.sub.ext hf1, s1.sub.ext hco1, G1, ods, Fr1, ws, s1.sub, s1.ren.marks, rp1, (List.nodup_append.mp nd1).2.1, fr1, RSL.mono st0.gle hws, call_fin s1 st1 nd1 q⟩
        · exact h.elim
    · refine .plain K.hK ⟨fun pins s σ H Q I h => ?_⟩ rfl rfl (fun j e => by cases e)
      exfalso
      rw [ev_callv] at h
      obtain ⟨G, F0, e, s, h⟩ := h
      dsimp only at h
      split at h
      · rename_i g ws hi
        obtain ⟨v, Fa, Fi, Fb, e1, _, ro, _⟩ := s.ren.get hi
        simp only [RO, RS] at ro
        exact hon ro.1.1
      · exact h.elim
  · cases h
end
/-! ### functions are made -/
section
open LamX NdefX
variable {X : Cx} {pins : List (Addr × Obj)} {σ : L2.St} {H : Hp} {s : Shared}
theorem inv_lm {q : Str} {params : Arguments} {body : Expr} {scope : Scope} {cl : List (Str × Addr)} {co : Addr} {pm ctv : Value} {t' : Nat} (I : Inv X pins σ H s) :
    Inv X pins σ (upd H s.heap.objs.size (.ext (LmP s.heap.objs.size q params body scope cl co))) { s with heap := s.heap.push (PySem.W.kla_obj "<lambda>" q params body scope cl pm co ctv), toks := t' } := by
  refine I.laid (a := s.heap.objs.size) (fun b u e => Heap.get?_push_of_some _ e) (Nat.le_refl _) ?_
  have e : (s.heap.push (PySem.W.kla_obj "<lambda>" q params body scope cl pm co ctv)).get? s.heap.objs.size = some (PySem.W.kla_obj "<lambda>" q params body scope cl pm co ctv) := Heap.get?_push_size _ rfl
  exact ⟨⟨pm, ctv, e⟩, ⟨_, e⟩, fun h1 h2 ⟨pm, ctv, z⟩ st => ⟨pm, ctv, st _ z⟩⟩
/-- what is known where a function was made -/
structure Made (H H1 : Hp) (P : Addr) (q : Str) (f co : Addr) (fo : Heap → Prop) : Prop where
  keep : ∀ b o, b ≠ P → H b = some o → H1 b = some o
  none : ∀ b, H1 b = Option.none → H b = Option.none
  tab : ∃ ps, H1 P = some (.tbl ps) ∧ TriplesOk ps.toList ∧ ∀ (pos : Pos) (cv : Value), codeAmong pos ps.toList = some cv → cv = .ref co ∨ ∃ ps0, H P = some (.tbl ps0) ∧ codeAmong pos ps0.toList = some cv
  old : H co = Option.none ∨ ∃ pos ps0, H P = some (.tbl ps0) ∧ codeAmong pos ps0.toList = some (.ref co)
  nf : H f = Option.none
  f1 : H1 f = some (.ext fo)
  co1 : H1 co = some (CodeO co q)
  ne : co ≠ f
theorem lam_make3 {c P : Addr} {params : Arguments} {body : Expr} {scope : Scope} {pos : Pos} {E : Value → Shared → Prop} {Q : Value → Shared → Prop} (I : Inv X pins σ H s) (TB : TabB X.base X.mg c P) (hcode : X.env.code = .ref c)
    (hT : TabS H P (X.env.qual ++ "<lambda>")) (hdef : defaultsOf params X.env = ([], [])) (hfree : ∀ y ∈ scope.names, y.2 = .free → ∃ c, X.env.cells.lookup y.1 = some c)
    (h : ∀ (f c' : Addr) (H1 : Hp) (s' : Shared), Inv X pins σ H1 s' → Made H H1 P (X.env.qual ++ "<lambda>") f c' (LmP f (X.env.qual ++ "<lambda>") params body scope (cloFrom X.env.cells scope.names []) c') → Q (.ref f) s') :
    wpAny (model X.prog X.w) X.A (eval (.Lambda params body scope pos) X.env) Q E s := by
  obtain ⟨ps, hP, ht, ha⟩ := hT
  refine PySem.W.kla_eval hdef ?_
  have hP' : s.heap.get? P = some { cls := .none, data := .fields ps } := I.hok _ _ hP
  have bP := TB.bm.keeps I.bk
  cases hc : codeAmong pos ps.toList
  case none =>
    refine PySem.W.kla_makeFunction (mg := X.mg) (c := c) (P := P) (ps := ps) (closure_ok hfree) I.ok.glob (I.mod.glob.keeps I.bk) hcode (TB.code.keeps I.bk) hP' ht hc TB.gP bP fun c' ctv h' tk hx hge hlt hrec htb => ?_
    rcases hrec with ⟨_, oc, vs, t, ⟨rfl⟩, hoc, hd, hv⟩
    have nC := I.hok.fresh (a := c') hge
    have I0 := inv_table (t' := tk) (more := #[rawInt pos.line, rawInt pos.col, .ref c']) (h' := h') I hP (fun b o hb e => hx b o hb e) htb hge ⟨oc, vs, t, hoc, hd, hv⟩
    have nF0 := I0.hok.fresh (Nat.le_refl _)
    have I1 := inv_lm (t' := tk) (q := X.env.qual ++ "<lambda>") (params := params) (body := body) (scope := scope) (cl := cloFrom X.env.cells scope.names []) (co := c') (pm := (X.mg "__name__").getD .none) (ctv := ctv) I0
    have nF : H h'.objs.size = none := I.hok.fresh (Nat.le_trans hge (Nat.le_of_lt hlt))
    have eL : (ps ++ #[rawInt pos.line, rawInt pos.col, .ref c']).toList = ps.toList ++ [rawInt pos.line, rawInt pos.col, .ref c'] := by simp
    have kp : ∀ b o, b ≠ P → H b = some o → upd (upd (upd H P (.tbl (ps ++ #[rawInt pos.line, rawInt pos.col, .ref c']))) c' (CodeO c' (X.env.qual ++ "<lambda>"))) h'.objs.size (.ext (LmP h'.objs.size (X.env.qual ++ "<lambda>") params body scope (cloFrom X.env.cells scope.names []) c')) b = some o := fun b o hb e => by
      rw [upd_ne (ne_of_none e nF), upd_ne (ne_of_none e nC), upd_ne hb]
      exact e
    have cf : c' ≠ h'.objs.size := Nat.ne_of_lt hlt
    have atc : upd (upd (upd H P (.tbl (ps ++ #[rawInt pos.line, rawInt pos.col, .ref c']))) c' (CodeO c' (X.env.qual ++ "<lambda>"))) h'.objs.size (.ext (LmP h'.objs.size (X.env.qual ++ "<lambda>") params body scope (cloFrom X.env.cells scope.names []) c')) c' = some (CodeO c' (X.env.qual ++ "<lambda>")) := by
      rw [upd_ne cf, upd_same]
    refine h h'.objs.size c' _ _ I1 ⟨kp, fun b e => upd_none (upd_none (upd_none e)), ⟨_, by rw [upd_ne (ne_of_none hP nF), upd_ne (ne_of_none hP nC), upd_same], by rw [eL]; exact PySem.TriplesOk_snoc _ _ _ _ ht, fun p' cv hcv => ?_⟩, .inl nC, nF, upd_same, atc, cf⟩
    rw [eL] at hcv
    rcases among_app _ ht hcv with z | z
    · exact .inr ⟨ps, hP, z⟩
    · exact .inl z
  case some cv =>
    rcases ha pos cv hc with ⟨c', rfl, hco⟩
    refine PySem.W.kla_makeFunctionHit (mg := X.mg) (c := c) (P := P) (ps := ps) (closure_ok hfree) I.ok.glob (I.mod.glob.keeps I.bk) hcode (TB.code.keeps I.bk) hP' ht hc bP fun ctv h' tk hx hsz => ?_
    have I0 : Inv X pins σ H { s with heap := h', toks := tk } := I.kept hx
    have I1 := inv_lm (t' := tk) (q := X.env.qual ++ "<lambda>") (params := params) (body := body) (scope := scope) (cl := cloFrom X.env.cells scope.names []) (co := c') (pm := (X.mg "__name__").getD .none) (ctv := ctv) I0
    have nF : H h'.objs.size = none := I0.hok.fresh (Nat.le_refl _)
    have kp : ∀ b o, H b = some o → upd H h'.objs.size (.ext (LmP h'.objs.size (X.env.qual ++ "<lambda>") params body scope (cloFrom X.env.cells scope.names []) c')) b = some o := fun b o e => by
      rw [upd_ne (ne_of_none e nF)]
      exact e
    exact h h'.objs.size c' _ _ I1 ⟨fun b o _ e => kp b o e, fun b e => upd_none e, ⟨ps, kp _ _ hP, ht, fun pos cv hc => .inr ⟨ps, hP, hc⟩⟩, .inr ⟨pos, ps, hP, hc⟩, nF, upd_same, kp _ _ hco, ne_of_none hco nF⟩
theorem ndef_make3 {c P : Addr} {name : Str} {params : Arguments} {body : List Stmt} {scope : Scope} {pos : Pos} {E : Value → Shared → Prop} {Q : Value → Shared → Prop} (I : Inv X pins σ H s) (TB : TabB X.base X.mg c P) (hcode : X.env.code = .ref c)
    (hT : TabS H P (X.env.qual ++ name)) (hfree : ∀ y ∈ scope.names, y.2 = .free → ∃ c, X.env.cells.lookup y.1 = some c)
    (h : ∀ (f c' : Addr) (H1 : Hp) (s' : Shared), Inv X pins σ H1 s' → Made H H1 P (X.env.qual ++ name) f c' (FnP f ⟨name, X.env.qual ++ name, params, body, scope, cloFrom X.env.cells scope.names [], c'⟩) → Q (.ref f) s') :
    wpAny (model X.prog X.w) X.A (makeFunction name (X.env.qual ++ name) params (.stmts body) scope X.env [] [] [] pos pos.line) Q E s := by
  obtain ⟨ps, hP, ht, ha⟩ := hT
  have hP' : s.heap.get? P = some { cls := .none, data := .fields ps } := I.hok _ _ hP
  have bP := TB.bm.keeps I.bk
  cases hc : codeAmong pos ps.toList
  case none =>
    refine PySem.W.makeFunction_K (mg := X.mg) (c := c) (P := P) (ps := ps) (closure_ok hfree) I.ok.glob (I.mod.glob.keeps I.bk) hcode (TB.code.keeps I.bk) hP' ht hc TB.gP bP fun c' ctv doc h' tk hx hge hlt hrec htb => ?_
    rcases hrec with ⟨_, oc, vs, t, ⟨rfl⟩, hoc, hd, hv⟩
    have nC := I.hok.fresh (a := c') hge
    have I0 := inv_table (t' := tk) (more := #[rawInt pos.line, rawInt pos.col, .ref c']) (h' := h') I hP (fun b o hb e => hx b o hb e) htb hge ⟨oc, vs, t, hoc, hd, hv⟩
    have I1 := inv_fn (F := ⟨name, X.env.qual ++ name, params, body, scope, cloFrom X.env.cells scope.names [], c'⟩) (t' := tk) (doc := doc) (pm := (X.mg "__name__").getD .none) (ctv := ctv) I0 rfl
    have nF : H h'.objs.size = none := I.hok.fresh (Nat.le_trans hge (Nat.le_of_lt hlt))
    have eL : (ps ++ #[rawInt pos.line, rawInt pos.col, .ref c']).toList = ps.toList ++ [rawInt pos.line, rawInt pos.col, .ref c'] := by simp
    have kp : ∀ b o, b ≠ P → H b = some o → upd (upd (upd H P (.tbl (ps ++ #[rawInt pos.line, rawInt pos.col, .ref c']))) c' (CodeO c' (X.env.qual ++ name))) h'.objs.size (FnO h'.objs.size ⟨name, X.env.qual ++ name, params, body, scope, cloFrom X.env.cells scope.names [], c'⟩) b = some o := fun b o hb e => by
      rw [upd_ne (ne_of_none e nF), upd_ne (ne_of_none e nC), upd_ne hb]
      exact e
    have cf : c' ≠ h'.objs.size := Nat.ne_of_lt hlt
    have atc : upd (upd (upd H P (.tbl (ps ++ #[rawInt pos.line, rawInt pos.col, .ref c']))) c' (CodeO c' (X.env.qual ++ name))) h'.objs.size (FnO h'.objs.size ⟨name, X.env.qual ++ name, params, body, scope, cloFrom X.env.cells scope.names [], c'⟩) c' = some (CodeO c' (X.env.qual ++ name)) := by
      rw [upd_ne cf, upd_same]
    refine h h'.objs.size c' _ _ I1 ⟨kp, fun b e => upd_none (upd_none (upd_none e)), ⟨_, by rw [upd_ne (ne_of_none hP nF), upd_ne (ne_of_none hP nC), upd_same], by rw [eL]; exact PySem.TriplesOk_snoc _ _ _ _ ht, fun p' cv hcv => ?_⟩, .inl nC, nF, upd_same, atc, cf⟩
    rw [eL] at hcv
    rcases among_app _ ht hcv with z | z
    · exact .inr ⟨ps, hP, z⟩
    · exact .inl z
  case some cv =>
    rcases ha pos cv hc with ⟨c', rfl, hco⟩
    refine PySem.W.makeFunction_hit (mg := X.mg) (c := c) (P := P) (ps := ps) (closure_ok hfree) I.ok.glob (I.mod.glob.keeps I.bk) hcode (TB.code.keeps I.bk) hP' ht hc bP fun ctv doc h' tk hx hsz => ?_
    have I0 : Inv X pins σ H { s with heap := h', toks := tk } := I.kept hx
    have nF : H h'.objs.size = none := I0.hok.fresh (Nat.le_refl _)
    have I1 := inv_fn (F := ⟨name, X.env.qual ++ name, params, body, scope, cloFrom X.env.cells scope.names [], c'⟩) (t' := tk) (doc := doc) (pm := (X.mg "__name__").getD .none) (ctv := ctv) I0 rfl
    have kp : ∀ b o, H b = some o → upd H h'.objs.size (FnO h'.objs.size ⟨name, X.env.qual ++ name, params, body, scope, cloFrom X.env.cells scope.names [], c'⟩) b = some o := fun b o e => by
      rw [upd_ne (ne_of_none e nF)]
      exact e
    exact h h'.objs.size c' _ _ I1 ⟨fun b o _ e => kp b o e, fun b e => upd_none e, ⟨ps, kp _ _ hP, ht, fun pos cv hc => .inr ⟨ps, hP, hc⟩⟩, .inr ⟨pos, ps, hP, hc⟩, nF, upd_same, kp _ _ hco, ne_of_none hco nF⟩
/-- the reading of a lambda -/
def tLam3 (P : Addr) (q : Str) (fo : Addr → Addr → Heap → Prop) : TE := fun σ H Q => TabS H P q ∧ ∀ f co H1, Made H H1 P q f co (fo f co) → Q (.ref f) H1
theorem pe_lam3 {c P : Addr} {params : Arguments} {body : Expr} {scope : Scope} {pos : Pos} (TB : TabB X.base X.mg c P) (hcode : X.env.code = .ref c) (hdef : defaultsOf params X.env = ([], []))
    (hfree : ∀ y ∈ scope.names, y.2 = .free → X.env.scope.names.lookup y.1 = some .cell) :
    PE X (.Lambda params body scope pos) (tLam3 P (X.env.qual ++ "<lambda>") fun f co => LmP f (X.env.qual ++ "<lambda>") params body scope (cloFrom X.env.cells scope.names []) co) :=
  ⟨fun pins s σ H Q I h => lam_make3 I TB hcode h.1 hdef (fun y hy e => I.ok.has _ (.inl (hfree y hy e))) fun f co H1 s' I1 m => ⟨.ref f, H1, I1, rfl, h.2 f co H1 m⟩⟩
end
end MW
namespace MW
open L2 PyProof.Rows PySem.Spec PySem
section
open LamX NdefX
variable {c : RC} {Ex : XK} {X : Cx} {M : Mo} {N : List Str} {sc : Scope} {lvl : Nat} {C : CallS}
/-- a function was made: told in the shared part from now on -/
theorem SIM.made {σ : L2.St} {H G H1 : Hp} {F : List Addr} {e : Env} (s : SIM c σ H G F e) {P f co : Addr} {q : Str} {fo : Heap → Prop} (m : Made H H1 P q f co fo) (hP : G P = some (tmark q)) :
    ∃ G1, SIM c σ H1 G1 F e ∧ Step H G F H1 G1 F ∧ G1 f = some (.ext fo) ∧ G1 co = some (CodeO co q) := by
  obtain ⟨ps, t1, t2, t3⟩ := s.sub.tab hP
  have gf : G f = none := s.sub.no m.nf
  have fP : f ≠ P := fun z => by have := m.nf; rw [z, t1] at this; cases this
  have coP : co ≠ P := fun z => by
    obtain ⟨ps1, u1, _⟩ := m.tab
    have := m.co1
    rw [z, u1] at this
    cases this
  -- what the shared part may already say of the code object
  have gco : ∀ o, G co = some o → o = CodeO co q := fun o h => by
    rcases s.sub co o h with ⟨e, _⟩ | ⟨z, ob, e⟩ | ⟨q', _, ps', e, _⟩
    · exact Option.some.inj ((m.keep co o coP e).symm.trans m.co1)
    · have := (m.keep co _ coP e).symm.trans m.co1
      cases this
    · have := (m.keep co _ coP e).symm.trans m.co1
      cases this
  have at_f : upd (upd G co (CodeO co q)) f (.ext fo) f = some (.ext fo) := upd_same
  have at_co : upd (upd G co (CodeO co q)) f (.ext fo) co = some (CodeO co q) := by rw [upd_ne m.ne, upd_same]
  have at_o : ∀ a, a ≠ f → a ≠ co → upd (upd G co (CodeO co q)) f (.ext fo) a = G a := fun a h1 h2 => by rw [upd_ne h1, upd_ne h2]
  have le : Gle G (upd (upd G co (CodeO co q)) f (.ext fo)) := Gle.of fun a o h => by
    have h1 : a ≠ f := fun z => by rw [z, gf] at h; cases h
    by_cases h2 : a = co
    · subst h2
      rw [at_co, gco o h]
    · rw [at_o a h1 h2]
      exact h
  have sub : Sub (upd (upd G co (CodeO co q)) f (.ext fo)) H1 := fun a o h => by
    by_cases h1 : a = f
    · subst h1
      rw [at_f] at h
      cases h
      exact .inl ⟨m.f1, trivial⟩
    by_cases h2 : a = co
    · subst h2
      rw [at_co] at h
      cases h
      exact .inl ⟨m.co1, trivial⟩
    rw [at_o a h1 h2] at h
    by_cases h3 : a = P
    · subst h3
      rw [hP] at h
      cases h
      refine .inr (.inr ⟨q, rfl, ?_⟩)
      obtain ⟨ps1, u1, u2, u3⟩ := m.tab
      refine ⟨ps1, u1, u2, fun pos cv hc => ?_⟩
      rcases u3 pos cv hc with z | ⟨ps0, z1, z2⟩
      · exact ⟨co, z, at_co⟩
      · rw [t1] at z1
        cases z1
        obtain ⟨c0, e1, e2⟩ := t3 pos cv z2
        exact ⟨c0, e1, le.ex e2 fun z => z⟩
    · rcases s.sub a o h with ⟨z, n⟩ | ⟨z, ob, z2⟩ | ⟨q', z, t⟩
      · exact .inl ⟨m.keep a o h3 z, n⟩
      · exact .inr (.inl ⟨z, ob, m.keep a _ h3 z2⟩)
      · obtain ⟨ps', v1, v2, v3⟩ := t.mono le
        exact .inr (.inr ⟨q', z, ps', m.keep a _ h3 v1, v2, v3⟩)
  have FP : ∀ a ∈ F, a ≠ P := fun a ha z => by have := s.gf a ha; rw [z, hP] at this; cases this
  have ag : AgreeOn F H H1 := fun a ha o h => m.keep a o (FP a ha) h
  refine ⟨_, ⟨sub, REnv.mono le ag s.ren, s.nd, fun a ha => ?_⟩, ⟨fun a o h n hf gn => ?_, fun a h z => h (m.none a z), le, fun a ha => .inl ha, fun a h => ?_⟩, at_f, at_co⟩
  · obtain ⟨o, h1, h2⟩ := REnv.seqs s.ren a ha
    have n1 : a ≠ f := fun z => by rw [z, m.nf] at h1; cases h1
    have n2 : a ≠ co := fun z => by
      have := ag a ha o h1
      rw [z, m.co1] at this
      cases this
      exact h2
    rw [at_o a n1 n2]
    exact s.gf a ha
  · refine m.keep a o (fun z => ?_) h
    rw [z, at_o P (Ne.symm fP) (Ne.symm coP), hP] at gn
    cases gn
  · by_cases h1 : a = f
    · exact .inr (.inr (by rw [h1]; exact m.nf))
    by_cases h2 : a = co
    · rcases m.old with z | ⟨pos, ps0, z1, z2⟩
      · exact .inr (.inr (by rw [h2]; exact z))
      · rw [t1] at z1
        cases z1
        obtain ⟨c0, e1, e2⟩ := t3 pos _ z2
        cases e1
        exact .inl (by rw [h2, e2]; simp)
    · rw [at_o a h1 h2] at h
      exact .inl h
/-- the captured slots, shared -/
theorem SIM.caps : ∀ {js : List Nat} {ws : List D} {σ : L2.St} {H G : Hp} {F : List Addr} {e e1 : Env}, SIM c σ H G F e → capE js e = some (ws, e1) →
    ∃ vs G1 F1, SIM c σ H G1 F1 e1 ∧ Step H G F H G1 F1 ∧ js.map (slotAt σ) = vs.map some ∧ RSL c G1 ws vs
  | [], ws, σ, H, G, F, e, e1, s, h => by
    simp only [capE, Option.some.injEq, Prod.mk.injEq] at h
    obtain ⟨rfl, rfl⟩ := h
    exact ⟨[], G, F, s, Step.refl, rfl, by simp [RSL]⟩
  | j :: js, ws, σ, H, G, F, e, e1, s, h => by
    simp only [capE] at h
    split at h
    · rename_i od hj
      simp only [Option.map_eq_some_iff] at h
      obtain ⟨⟨ws', e'⟩, h1, h2⟩ := h
      simp only [Prod.mk.injEq] at h2
      obtain ⟨rfl, rfl⟩ := h2
      obtain ⟨v, G', F', hv, s', st, rs⟩ := s.seal hj
      obtain ⟨vs, G1, F1, s1, st1, hm, r1⟩ := SIM.caps s' h1
      refine ⟨v :: vs, G1, F1, s1, st.trans st1, by rw [List.map_cons, List.map_cons, hm, slotAt_of hv], ?_⟩
      simp only [RSL]
      exact ⟨v, vs, rfl, RS.mono st1.gle rs, r1⟩
    · cases h
/-! ### the base of a call by which a function is handed on -/
theorem baseB {pins : List (Addr × Obj)} {σ : L2.St} {H : Hp} {s : Shared} (I : Inv X pins σ H s) :
    ∃ b : Heap, (∀ a o, X.base.get? a = some o → b.get? a = some o) ∧ Env0 X.prog X.w X.K X.mg b X.A X.stack s H ∧
      ∀ (cl : List (Str × Addr)) (fr : List Str) (vs : List V), (∀ y a, cl.lookup y = some a → X.env.cells.lookup y = some a ∧ X.fn y = true) → CellsAt cl fr (vs.map some) s.heap H → CellsB b cl fr vs := by
  have get : ∀ {a o}, s.heap.get? a = some o → H a = none → a ∉ frs X.stack → (PySem.W.hideAll s.heap (trk s.heap H ++ frs X.stack)).get? a = some o := fun {a o} e n nf => by
    refine PySem.W.hideAll_get _ e fun hm => ?_
    rcases List.mem_append.mp hm with hm | hm
    · have q : (H a).isSome = true := (List.mem_filter.mp hm).2
      rw [n] at q; simp at q
    · exact nf hm
  have of : ∀ {a o}, (PySem.W.hideAll s.heap (trk s.heap H ++ frs X.stack)).get? a = some o → s.heap.get? a = some o ∧ H a = none := fun {a o} e => by
    have e' : s.heap.get? a = some o := PySem.W.of_hideAll _ e
    refine ⟨e', ?_⟩
    cases q : H a with
    | none => rfl
    | some x =>
      have hm : a ∈ trk s.heap H := List.mem_filter.mpr ⟨List.mem_range.mpr (Heap.lt_size e'), by simp [q]⟩
      have z := PySem.W.hideAll_none (h := s.heap) (trk s.heap H ++ frs X.stack) (List.mem_append_left _ hm)
      rw [z] at e; cases e
  have nloc : X.base.get? X.env.locals = none := Heap.get?_none_of_le (Nat.le_trans I.ok.bsz I.ok.above)
  have sup : ∀ a o, X.base.get? a = some o → (PySem.W.hideAll s.heap (trk s.heap H ++ frs X.stack)).get? a = some o := fun a o e => by
    refine get (I.bs a o e).1 (I.bs a o e).2 fun z => ?_
    rcases List.mem_cons.mp (I.stkSub a z) with h | h
    · rw [h, nloc] at e; cases e
    · exact I.ok.nofr e h
  have cellIn : ∀ {y a v}, X.env.cells.lookup y = some a → X.fn y = true → s.heap.IsCell a v → (PySem.W.hideAll s.heap (trk s.heap H ++ frs X.stack)).IsCell a v := fun {y a v} e hfn ⟨o, ho, hd⟩ => by
    refine ⟨o, get ho (I.freeC y a e) fun z => ?_, hd⟩
    rcases List.mem_cons.mp (I.stkSub a z) with h | h
    · exact I.cne y a e h
    · obtain ⟨_, o2, ho2, _⟩ := I.ok.funs.mem h
      exact absurd (Heap.lt_size ho2) (Nat.not_lt.mpr (I.ok.cab y a hfn e))
  refine ⟨_, sup, ⟨I.ok.frames, ⟨I.mod.kin.keeps sup, I.mod.glob.keeps sup, ?_, I.mod.nolimit.keeps sup⟩, fun a o e => of e, by rw [PySem.W.hideAll_size]; exact Nat.le_refl _, ?_, I.stkFree, I.hok, I.bare⟩, fun cl fr vs hcl C => ?_⟩
  · obtain ⟨mb, h1, h2⟩ := I.mod.blt
    exact ⟨mb, h1.keeps sup, h2⟩
  · have key : ∀ l : List PySem.Env, (∀ b ∈ frs l, b ∈ frs X.stack) → s.heap.FunFrames X.base l → s.heap.FunFrames (PySem.W.hideAll s.heap (trk s.heap H ++ frs X.stack)) l := by
      intro l
      induction l with
      | nil => intro _ _; trivial
      | cons env r ih =>
        intro hs hl
        obtain ⟨hk, ⟨L, o, hf, hn, ho, hd⟩, hr⟩ := hl
        have hL : L ∈ frs X.stack := hs L (by unfold frs; rw [List.filterMap_cons, hf]; exact List.mem_cons_self)
        exact ⟨hk, ⟨L, o, hf, PySem.W.hideAll_none _ (List.mem_append_right _ hL), ho, hd⟩, ih (fun b hb => hs b (by unfold frs; rw [List.filterMap_cons, hf]; exact List.mem_cons_of_mem _ hb)) hr⟩
    exact key X.stack (fun _ h => h) I.stack
  · refine ⟨by have := C.len; simpa using this, fun y a e => ?_, C.inj, fun i y e => ?_⟩
    · obtain ⟨v, z⟩ := (C.all y a e).2
      obtain ⟨h1, h2⟩ := hcl y a e
      exact ⟨v, cellIn h1 h2 z⟩
    · obtain ⟨a, ha, hv⟩ := C.has i y e
      refine ⟨a, ha, fun v ev => ?_⟩
      obtain ⟨u, ru, z⟩ := hv v (by rw [List.getElem?_map, ev]; rfl)
      obtain ⟨h1, h2⟩ := hcl y a ha
      exact ⟨u, ru, cellIn h1 h2 z⟩
/-- a call whose run is told of the very state behind its arguments -/
theorem pe_callS {f : Addr} {x : Str} {e : Expr} {es : List Expr} {t : TA} {p pos : Pos} {pre : L2.St → List V → Hp → VK → Prop} (hg : Gl X x) (hm : X.mg x = some (.ref f)) (hk : PySem.W.keepIn X.K (.ref f) = true) (ha : PA X (e :: es) t)
    (run : ∀ (pins : List (Addr × Obj)) (s : Shared) (σ : L2.St) (H : Hp) (us : List Value) (vs : List V) (Q : VK), Inv X pins σ H s → Vals vs us → pre σ vs H Q → wpAny (model X.prog X.w) X.A (call (.ref f) us) (EP X pins σ Q) X.xe s)
    (hdb : (x == ("__debug__" : Str)) = false) (he : starEach (e :: es) X.env = (false, eval e X.env) :: starEach es X.env) (hpl : (backTo pos (starEach es X.env)).any (·.1) = false) :
    PE X (.Call (.Name x p) (e :: es) [] pos) (fun σ H Q => t σ H fun vs H1 => pre σ vs H1 Q) := by
  refine ⟨fun pins s σ H Q I h => ?_⟩
  refine wpAny_Call_Name_kw (ld_glob I hg hm ?_ hdb)
  exact PySem.W.callWith_K (h₀ := X.base) I.ok.mod.kin hk (thn (ha.run pos pins s σ H _ I h) fun us s1 ⟨vs, H1, I1, r, q⟩ => ⟨I1.kIn, run pins s1 σ H1 us vs Q I1 r q⟩) he hpl
/-- what is known ahead of such a call: the function stands at f; d: the argument ahead of it -/
def preC (c : RC) (Ex : XK) (C : CallS) (fnum g : Nat) (js : List Nat) (q : Str) (fo : Addr → Addr → Heap → Prop) : L2.St → List V → Hp → VK → Prop := fun σ vs H Q =>
  ∃ v f co d ws wv G, vs = [v, .ref f] ∧ js.map (slotAt σ) = wv.map some ∧ Sub G H ∧ Marks c G ∧ G f = some (.ext (fo f co)) ∧ G co = some (CodeO co q) ∧ RS c G d v ∧ RSL c G ws wv ∧ d.noC = true ∧ D.noCs ws = true ∧
    ∃ R, C fnum [.s d, .s (.clo g ws)] = R ∧ (∀ r, R = .ok r → r.noC = true) ∧ finP c Ex R H G [] Q
theorem finP_re {c c' : RC} (k : c.K = c'.K) (kc : c.cl = c'.cl) {R : CRes} {H G : Hp} {F : List Addr} {Q : VK} (hn : ∀ r, R = .ok r → r.noC = true) (h : finP c Ex R H G F Q) : finP c' Ex R H G F Q := by
  cases R with
  | ok r => exact fun v H' G' F' st sb ro nd fr => h v H' G' F' st sb (RO.re k.symm (hn r rfl) ro) nd fr
  | exc j =>
    intro H' G' st sb
    rw [← kc]
    exact h H' G' st sb
  | bad => exact h
theorem cloFrom_cells {cells : List (Str × Addr)} {names : List (Str × NameKind)} (hfree : ∀ y ∈ names, y.2 = .free → ∃ c, cells.lookup y.1 = some c) {y : Str} {a : Addr} (e : (cloFrom cells names []).lookup y = some a) : cells.lookup y = some a ∧ (y, NameKind.free) ∈ names := by
  refine ⟨clo_cm hfree e, ?_⟩
  rcases cloFrom_mem (PySem.mem_of_lookup e) with hm | ⟨h1, _⟩
  · cases hm
  · exact h1
/-- the run of such a call -/
theorem run_clo {top : Bool} (K : Ctx M c Ex N sc top lvl X) (ht : top = true) {fn : Nm} {np : Nat → Nat} (W : CallOk M c C lvl fn np) {fnum g : Nat} {x q nm : Str} {fr : List Str} {js : List Nat} {nsc : Scope} {a : Addr} (hn : fn fnum = some x) (hm : M.mg x = some (.ref a)) (hli : fn.li g = some (q, nm, fr))
    (hjs : js.map (fun j => N[j]?) = fr.map some) (hfree : ∀ y ∈ nsc.names, y.2 = .free → sc.names.lookup y.1 = some .cell) (hfr : ∀ y ∈ fr, (y, NameKind.free) ∈ nsc.names) {fo : Addr → Addr → Heap → Prop}
    (hB : ∀ (b : Heap) (f co : Addr) (vs : List V), CellsB b (cloFrom X.env.cells nsc.names []) fr vs → CloB fn b ⟨true, f, co, g, vs, fo f co, q⟩)
    {pins : List (Addr × Obj)} {s : Shared} {σ : L2.St} {H : Hp} {us : List Value} {vs : List V} {Q : VK} (I : Inv X pins σ H s) (rv : Vals vs us) (h : preC c Ex C fnum g js q fo σ vs H Q) :
    wpAny (model X.prog X.w) X.A (call (.ref a) us) (EP X pins σ Q) X.xe s := by
  obtain ⟨v, f, co, d, ws, wv, G, rfl, hsl, sub, mk, gf, gco, rd, rw_, nd, nws, R, hR, hRn, fin⟩ := h
  obtain ⟨b, hsup, e0, hcells⟩ := baseB I
  have hX : ∀ y ∈ nsc.names, y.2 = .free → X.env.scope.names.lookup y.1 = some .cell := fun y hy e => by rw [K.sc]; exact hfree y hy e
  have hfc : ∀ y ∈ nsc.names, y.2 = .free → ∃ c, X.env.cells.lookup y.1 = some c := fun y hy e => I.ok.has _ (.inl (hX y hy e))
  have cap : Caps X (cloFrom X.env.cells nsc.names []) fr js := Caps.made I.ok (fun y hy e => .inl (hX y hy e)) hfr (by rw [K.n]; exact hjs)
  have cat := cells_of I cap
  rw [hsl] at cat
  have cb := hcells _ fr wv (fun y a e => by
    obtain ⟨h1, h2⟩ := cloFrom_cells hfc e
    refine ⟨h1, ?_⟩
    rcases K.fn ht y with z | z
    · exact z
    · exact absurd (hX _ h2 rfl) z) cat
  have kb := hB b f co wv cb
  obtain ⟨a', fd, ps, F, hm', hk', hb⟩ := W.up b _ (fun a o e => hsup a o (by rw [K.base]; exact e)) kb fnum x hn
  obtain rfl : a = a' := by rw [hm] at hm'; cases hm'; rfl
  have pass : Passes (L2N.CX X.prog X.w) X Ex := L2N.passes_call K.tk fun _ _ _ _ h => h
  rw [← K.p, ← K.w, ← K.k, ← K.mg] at F
  rw [← K.k] at hb
  have hsp : spC { c with clo := ⟨true, f, co, g, wv, fo f co, q⟩ } C fnum (np fnum) [v, .ref f] H Q Ex := by
    have hne : C fnum [.s d, .s (.clo g ws)] ≠ .bad := fun z => by rw [hR] at z; rw [z] at fin; exact fin
    refine ⟨by rw [← W.ar _ _ hne]; rfl, G, [.s d, .s (.clo g ws)], [], sub, mk, ?_, List.nodup_nil, (fun _ z => by cases z), ?_⟩
    · simp only [ROL, RO]
      refine ⟨v, [.ref f], [], [], rfl, rfl, ⟨RS.re (c := c) (c' := { c with clo := ⟨true, f, co, g, wv, fo f co, q⟩ }) rfl nd rd, rfl⟩, .ref f, [], [], [], rfl, rfl, ⟨?_, rfl⟩, rfl, rfl⟩
      simp only [RS]
      exact ⟨trivial, trivial, trivial, gf, gco, RSL.re (c := c) (c' := { c with clo := ⟨true, f, co, g, wv, fo f co, q⟩ }) rfl nws rw_⟩
    · rw [hR]
      exact finP_re (c := c) (c' := { c with clo := ⟨true, f, co, g, wv, fo f co, q⟩ }) rfl rfl hRn fin
  have hl : us.length = ps.length := by rw [← rv.length]; exact F.len _ _ _ _ hsp
  refine wpAny_call (codeAny_mono (F.run X.A X.stack s H ⟨us, []⟩ us [v, .ref f] Q Ex (K.room.mono (Nat.le_succ _)) e0 (by have := hb s us I.kIn (by rw [List.append_nil]; exact hl); rwa [List.append_nil] at this) rv hsp) fun r s' hq => ?_)
  cases r with
  | error e => exact pass pins σ H s e s' I hq
  | ok fl =>
    cases fl with
    | ret u => exact I.after hq
    | next => exact False.elim hq
    | brk => exact False.elim hq
    | cont => exact False.elim hq
end
end MW
namespace MW
open L2 PyProof.Rows PySem.Spec PySem
section
open LamX NdefX
variable {c : RC} {Ex : XK} {X : Cx} {M : Mo} {N : List Str} {sc : Scope} {lvl : Nat} {C : CallS}
theorem capOk_of {fn : Nm} {g : Nat} {js : List Nat} (h : capOk fn N g js = true) : ∃ q nm fr, fn.li g = some (q, nm, fr) ∧ q ∈ N ∧ js.map (fun j => N[j]?) = fr.map some := by
  unfold capOk at h
  split at h
  · rename_i q nm fr hl
    simp only [Bool.and_eq_true, decide_eq_true_eq] at h
    exact ⟨q, nm, fr, hl, h.1, h.2⟩
  · cases h
theorem ev_callL {f g : Nat} {a : ME} {js : List Nat} {e : Env} {ws : List D} {e1 : Env} (h : capE js e = some (ws, e1)) : ev C (.callL f a g js) e = (ev C a e1).bind fun od e => if od.toD.noC && D.noCs ws then (match C f [.s od.toD, .s (.clo g ws)] with
      | .ok r => if r.noC then .ok r e else .bad
      | .exc c => .exc c e
      | .bad => .bad)
      else .bad := by simp only [ev, h] <;> rfl
/-- from the evaluator's answer to what such a call asks (behind the making) -/
theorem call_pre {σ : L2.St} {HB GB H G H2 : Hp} {FB F1 : List Addr} {e2 : Env} {f g P : Nat} {js : List Nat} {q : Str} {fo : Addr → Addr → Heap → Prop} {ws : List D} {wv : List V} {d : D} {v : V} {fa co : Addr} {Q : VK}
    (s : SIM c σ H G F1 e2) (st : Step HB GB FB H G F1) (hP : G P = some (tmark q)) (m : Made H H2 P q fa co (fo fa co)) (hsl : js.map (slotAt σ) = wv.map some) (rd : RS c G d v) (rw_ : RSL c G ws wv)
    (q0 : rdB c Ex HB GB FB (repO c) (if d.noC && D.noCs ws then (match C f [.s d, .s (.clo g ws)] with
      | .ok r => if r.noC then Out.ok r e2 else .bad
      | .exc c => .exc c e2
      | .bad => .bad)
      else .bad) σ Q) : preC c Ex C f g js q fo σ [v, .ref fa] H2 Q := by
  split at q0
  · rename_i hn
    simp only [Bool.and_eq_true] at hn
    obtain ⟨G1, s1, st1, gf, gco⟩ := s.made m hP
    refine ⟨v, fa, co, d, ws, wv, G1, rfl, hsl, s1.sub, s1.ren.marks, gf, gco, RS.mono st1.gle rd, RSL.mono st1.gle rw_, hn.1, hn.2, C f [.s d, .s (.clo g ws)], rfl, ?_⟩
    have fin : ∀ R, rdB c Ex HB GB FB (repO c) (outR R e2) σ Q → finP c Ex R H2 G1 [] Q := fun R h => call_fin (F1 := F1) (Fr1 := []) s1 (by simpa using st.trans st1) (by simpa using s1.nd) h
    revert q0
    cases C f [.s d, .s (.clo g ws)] with
    | ok r =>
      intro q0
      dsimp only at q0
      split at q0
      · rename_i hr
        exact ⟨fun r' z => (by cases z; exact hr), fin (.ok r) q0⟩
      · exact q0.elim
    | exc k => exact fun q0 => ⟨fun r' z => (by cases z), fin (.exc k) q0⟩
    | bad => exact fun q0 => q0.elim
  · exact q0.elim
/-- x(e, lambda ..: ..) -/
theorem pe_callLam (K : Ctx M c Ex N sc true lvl X) {fn : Nm} {np : Nat → Nat} (W : CallOk M c C lvl fn np) {f g : Nat} {a : ME} {js : List Nat} {r : Expr → Bool} (ga : ∀ y, r y = true → Good c Ex X C a y) {x : Expr}
    (h : mCallL fn N sc (fn f) g js r x = true) : PE X x (rdX c Ex (repO c) (ev C (.callL f a g js))) := by
  unfold mCallL at h
  split at h
  · rename_i y p0 e z pos
    simp only [Bool.and_eq_true, decide_eq_true_eq] at h
    obtain ⟨⟨⟨⟨⟨hg, hn⟩, hd⟩, hr⟩, hl⟩, hc⟩ := h
    obtain ⟨q, nm, fr, hli, hq, hjs⟩ := capOk_of hc
    obtain ⟨params, body, scope, lpos, q', fr', rfl, hli', hdef, hfree, hfr⟩ := (W.lm g sc z hl).ex
    rw [hli] at hli'
    cases hli'
    obtain ⟨P, hP⟩ := W.tb g q _ fr hli
    obtain ⟨hqq, c0, hcode, TB⟩ := K.tab rfl P q _ hP hq
    obtain ⟨fa, fd, ps, F, hm, hk, hb⟩ := W.ok f y hn
    have g1 := ga e hr
    have hX : ∀ y ∈ scope.names, y.2 = .free → X.env.scope.names.lookup y.1 = some .cell := fun y hy e => by rw [K.sc]; exact hfree y hy e
    have pa : PA X [e, .Lambda params body scope lpos] (tCons (rdX c Ex (repS c) (ev C a)) (tCons (tLam3 P q fun f co => LmP f q params body scope (cloFrom X.env.cells scope.names []) co) tNil)) := by
      refine pa_cons g1.S (pa_cons ?_ pa_nil (star_cons rfl)) (star_cons g1.ns)
      have := pe_lam3 (body := body) (pos := lpos) TB hcode (hdef X.env) hX
      rw [← hqq] at this
      exact this
    refine PE.weak (pe_callS (pre := preC c Ex C f g js q fun f co => LmP f q params body scope (cloFrom X.env.cells scope.names []) co) (K.gl hg) (by rw [K.mg]; exact hm) (by rw [K.k]; exact hk) pa (fun pins s σ H us vs Q I rv hp => ?_) hd (star_cons g1.ns) rfl) fun σ H Q h => ?_
    · refine run_clo (nsc := scope) K rfl W hn hm hli hjs hfree hfr (fun b f co vs cb => fun _ => ⟨q, _, fr, sc, _, hli, rfl, cb, .inl ⟨params, body, scope, lpos, hl, rfl⟩⟩) I rv hp
    · obtain ⟨G, F0, e0, s, h⟩ := h
      cases hcap : capE js e0 with
      | none => simp only [ev, hcap] at h; exact h.elim
      | some p =>
        obtain ⟨ws, e1⟩ := p
        rw [ev_callL hcap] at h
        obtain ⟨wv, G1, F1, s1, st1, hsl, rws⟩ := s.caps hcap
        refine (rd_at (rep1 := repS c) s1 st1 h).imp fun v H1 q1 => ?_
        obtain ⟨G2, F2, Fr2, e2, od, s2, st20, st2, ⟨rfl, rd⟩, nd2, fr2, q2, _⟩ := q1
        have mk := s2.ren.marks _ hP
        refine ⟨(s2.sub.tab mk).tabS s2.sub, fun fa co H2 m => ?_⟩
        exact call_pre s2 (by simpa using st2) mk m hsl rd (RSL.mono st20.gle rws) q2
  · cases h
/-! a def within the def -/
def tNdef3 (P : Addr) (q : Str) (fo : Addr → Addr → Heap → Prop) (i : Nat) : TS := fun D σ H => TabS H P q ∧ ∀ f co H1, Made H H1 P q f co (fo f co) → D.nx (σ.set i (some (.ref f))) H1
theorem ps_ndef3 {st : Stmt} {c P : Addr} {name : Str} {pos : Pos} {i : Nat} (hst : st = .FunctionDef name (C8.fnArgs st) (C8.fnBody st) [] none [] (C8.fnScope st) none name pos) (TB : TabB X.base X.mg c P) (hcode : X.env.code = .ref c)
    (hfree : ∀ y ∈ (C8.fnScope st).names, y.2 = .free → X.env.scope.names.lookup y.1 = some .cell) (hd0 : (C8.fnArgs st).defaults = []) (hk0 : (C8.fnArgs st).kw_defaults = []) (ha : annTrees (C8.fnArgs st) none X.env = [])
    (hN : X.N.Nodup) (hi : X.N[i]? = some name) (hx : Loc X.env.scope name) (hf : X.fn name = true ∨ X.env.scope.names.lookup name = some .local) :
    PS X st (tNdef3 P (X.env.qual ++ name) (fun f co => FnP f (NF.of st name (X.env.qual ++ name) (cloFrom X.env.cells (C8.fnScope st).names []) co)) i) := by
  have key : PS X (.FunctionDef name (C8.fnArgs st) (C8.fnBody st) [] none [] (C8.fnScope st) none name pos) (tNdef3 P (X.env.qual ++ name) (fun f co => FnP f (NF.of st name (X.env.qual ++ name) (cloFrom X.env.cells (C8.fnScope st).names []) co)) i) := by
    refine ⟨fun pins s σ H D I ⟨hT, h⟩ => PySem.W.nestDef_K hd0 hk0 ha ?_⟩
    rw [show qualnameIn X.env name name = X.env.qual ++ name by
      unfold qualnameIn
      cases (show X.env.kindOf name = some .local ∨ X.env.kindOf name = some .cell from hx) <;> (rename_i z; rw [z]) <;> first | rfl | exact if_neg (by decide)]
    refine ndef_make3 I TB hcode hT (fun y hy e => I.ok.has _ (.inl (hfree y hy e))) fun f co H1 s' I1 m => ?_
    exact store_ok I1 hN hi hx (v := .ref f) rfl (fun s'' J => ⟨_, H1, J, h f co H1 m⟩) hf
  rw [← hst] at key
  exact key
/-- a free slot may hold whatever it holds -/
theorem SIM.free {σ : L2.St} {H G : Hp} {F : List Addr} {e : Env} {j : Nat} (s : SIM c σ H G F e) (h : isFree e[j]? = true) (y : Option V) : SIM c (σ.set j y) H G F e := by
  have hj : e[j]? = some none := by
    unfold isFree at h
    split at h
    · assumption
    · cases h
  refine ⟨s.sub, REnv.swap s.ren rfl (by simp) fun i => ?_, s.nd, s.gf⟩
  by_cases hij : j = i
  · subst hij
    exact .inr ⟨.inl hj, .inl hj⟩
  · exact .inl ⟨rfl, by rw [List.getElem?_set_ne hij]⟩
end
end MW
namespace MW
open L2 PyProof.Rows PySem.Spec PySem
section
variable {c : RC} {Ex : XK} {X : Cx} {M : Mo} {N : List Str} {sc : Scope} {top : Bool} {lvl : Nat} {C : CallS}
/-! ### calls that are lent their arguments -/
def isLT : Option HO → Bool
  | some (.lst _) => true
  | some (.tup _) => true
  | _ => false
mutual
theorem RO.bor {H G : Hp} : ∀ {d : OD} {v : V} {F : List Addr}, borO d = true → RO c H G d v F → ∀ a ∈ F, isLT (H a) = true
  | .s d, v, F, n, h, a, ha => by simp only [RO] at h; rw [h.2] at ha; cases ha
  | .ol l, v, F, n, h, a, ha => by
    simp only [RO] at h
    simp only [borO] at n
    obtain ⟨p, xs, F1, rfl, q, r, rfl⟩ := h
    rcases List.mem_cons.mp ha with rfl | ha
    · rw [q]; rfl
    · exact ROL.bor n r a ha
  | .ot l, v, F, n, h, a, ha => by
    simp only [RO] at h
    simp only [borO] at n
    obtain ⟨p, xs, F1, rfl, q, r, rfl⟩ := h
    rcases List.mem_cons.mp ha with rfl | ha
    · rw [q]; rfl
    · exact ROL.bor n r a ha
  | .odk l, v, F, n, h, a, ha => by simp only [borO] at n; cases n
  | .odt l, v, F, n, h, a, ha => by simp only [borO] at n; cases n
  | .oo j l, v, F, n, h, a, ha => by simp [RO] at h
theorem ROL.bor {H G : Hp} : ∀ {l : List OD} {xs : List V} {F : List Addr}, borOs l = true → ROL c H G l xs F → ∀ a ∈ F, isLT (H a) = true
  | [], xs, F, n, h, a, ha => by simp only [ROL] at h; rw [h.2] at ha; cases ha
  | d :: l, xs, F, n, h, a, ha => by
    simp only [ROL] at h
    simp only [borOs, Bool.and_eq_true] at n
    obtain ⟨x, r, F1, F2, rfl, rfl, p, q⟩ := h
    rcases List.mem_append.mp ha with z | z
    · exact RO.bor n.1 p a z
    · exact ROL.bor n.2 q a z
end
/-- the lists and tuples of F -/
def lent (H : Hp) (F : List Addr) : List Addr := F.filter fun a => isLT (H a)
/-- operands -/
def repL : Rep (List Opd) (List V) := fun σ _ G os vs F => F = [] ∧ os.length = vs.length ∧ ∀ (i : Nat) (o : Opd) (v : V), os[i]? = some o → vs[i]? = some v → match o with
  | .v d => RS c G d v
  | .at i => σ[i]? = some (some v)
theorem evb_cons {m : Bool} {a : ME} {l : MAs} : evb C (.cons m a l) = fun e => (MW.opd a (ev C a) e).bind fun o e => (evb C l e).bind fun os e => .ok (o :: os) e := by funext e; rfl
theorem pb_nil : PA X [] (rdX c Ex (repL (c := c)) (evb C .nil)) := PA.weak pa_nil fun σ H Q q => by
  obtain ⟨G, F, e, s, h⟩ := q
  exact h [] H G F [] s (by simpa using Step.refl) ⟨rfl, rfl, fun i o v h => by simp at h⟩ (by simpa using s.nd) (fun _ z => by cases z)
theorem pb_cons {m : Bool} {a : ME} {l : MAs} {x : Expr} {es : List Expr} (g : Good c Ex X C a x) (h : PA X es (rdX c Ex (repL (c := c)) (evb C l))) : PA X (x :: es) (rdX c Ex (repL (c := c)) (evb C (.cons m a l))) :=
  PA.weak (pa_cons g.opd h (hs := star_cons g.ns)) fun σ H Q q => by
    obtain ⟨G, F, e, s, q⟩ := q
    rw [evb_cons] at q
    refine (rd_at (rep1 := repP c) s Step.refl q).imp fun v H1 q1 => ?_
    obtain ⟨G1, F1, Fr1, e1, o, s1, _, st1, ⟨rfl, ro⟩, nd1, fr1, q1, _⟩ := q1
    refine (rd_at (rep1 := repL (c := c)) s1 (by simpa using st1) q1).imp fun vs H2 q2 => ?_
    obtain ⟨G2, F2, Fr2, e2, os, s2, st12, st2, ⟨rfl, hl, rl⟩, nd2, fr2, q2, _⟩ := q2
    refine q2 (v :: vs) H2 G2 F2 [] s2 (by simpa using st2) ⟨rfl, by simp [hl], fun i o' v' h1 h2 => ?_⟩ nd2 fr2
    cases i with
    | zero =>
      simp only [List.getElem?_cons_zero, Option.some.injEq] at h1 h2
      subst h1 h2
      cases o with
      | v d => exact RS.mono st12.gle ro
      | «at» i => exact ro
    | succ i => exact rl i o' v' (by simpa using h1) (by simpa using h2)
theorem resTs_get : ∀ {os : List Opd} {e : Env} {ds : List D}, resTs os e = some ds → ds.length = os.length ∧ ∀ (i : Nat) (o : Opd), os[i]? = some o → ∃ d, ds[i]? = some d ∧ o.resT e = some d
  | [], e, ds, h => by simp only [resTs, Option.some.injEq] at h; subst h; exact ⟨rfl, fun i o h => by simp at h⟩
  | o :: os, e, ds, h => by
    simp only [resTs] at h
    split at h
    · rename_i d ds' h1 h2
      cases h
      obtain ⟨hl, hg⟩ := resTs_get h2
      refine ⟨by simp [hl], fun i o' hi => ?_⟩
      cases i with
      | zero => simp only [List.getElem?_cons_zero, Option.some.injEq] at hi; subst hi; exact ⟨d, rfl, h1⟩
      | succ i => simpa using hg i o' (by simpa using hi)
    · cases h
theorem RSL.of_get {G : Hp} : ∀ {ds : List D} {vs : List V}, ds.length = vs.length → (∀ (i : Nat) (d : D) (v : V), ds[i]? = some d → vs[i]? = some v → RS c G d v) → RSL c G ds vs
  | [], [], _, _ => by simp [RSL]
  | [], _ :: _, h, _ => by simp at h
  | _ :: _, [], h, _ => by simp at h
  | d :: ds, v :: vs, h, g => by
    simp only [RSL]
    exact ⟨v, vs, rfl, g 0 d v rfl rfl, RSL.of_get (by simpa using h) fun i d v h1 h2 => g (i + 1) d v (by simpa using h1) (by simpa using h2)⟩
/-- what is lent, as shared data -/
theorem SIM.lend {σ : L2.St} {H G : Hp} {F : List Addr} {e : Env} (s : SIM c σ H G F e) {os : List Opd} {ds : List D} {vs : List V} (hr : resTs os e = some ds) (rp : repL (c := c) σ H G os vs []) : RSL c (shr G H (lent H F)) ds vs := by
  obtain ⟨_, hl, rl⟩ := rp
  obtain ⟨hl2, hg⟩ := resTs_get hr
  have le : Gle G (shr G H (lent H F)) := shr_le fun a ha => s.gf a (List.mem_filter.mp ha).1
  refine RSL.of_get (by omega) fun i d v h1 h2 => ?_
  obtain ⟨o, ho⟩ : ∃ o, os[i]? = some o := by
    have := (List.getElem?_eq_some_iff.mp h1).1
    exact ⟨_, List.getElem?_eq_getElem (by omega)⟩
  obtain ⟨d', hd', hres⟩ := hg i o ho
  rw [h1] at hd'
  cases hd'
  have r := rl i o v ho h2
  cases o with
  | v d0 =>
    simp only [Opd.resT, Option.some.injEq] at hres
    subst hres
    exact RS.mono le r
  | «at» j =>
    simp only [Opd.resT] at hres
    split at hres
    · rename_i od hj
      split at hres
      · rename_i hb
        cases hres
        obtain ⟨v', Fa, Fi, Fb, e1, eF, ro, _⟩ := s.ren.get hj
        have r : σ[j]? = some (some v) := r
        rw [r] at e1
        cases e1
        refine RO.share le (fun a ha o hho => ?_) ro
        unfold shr
        rw [if_pos (show a ∈ lent H F from List.mem_filter.mpr ⟨by rw [eF]; simp [ha], RO.bor hb ro a ha⟩)]
        exact hho
      · cases hres
    · cases hres
theorem lend_sub {σ : L2.St} {H G : Hp} {F : List Addr} {e : Env} (s : SIM c σ H G F e) : Sub (shr G H (lent H F)) H := fun a o q => by
  have le : Gle G (shr G H (lent H F)) := shr_le fun a ha => s.gf a (List.mem_filter.mp ha).1
  unfold shr at q
  split at q
  · rename_i z
    obtain ⟨o2, h2, h3⟩ := REnv.seqs s.ren a (List.mem_filter.mp z).1
    rw [q] at h2
    cases h2
    exact .inl ⟨q, nm_of h3⟩
  · exact (s.sub a o q).imp id (Or.imp id fun ⟨y, z, t⟩ => ⟨y, z, t.mono le⟩)
/-- behind the call what was lent is owned again -/
theorem SIM.back2 {σ : L2.St} {H G H2 G2 : Hp} {F F2 : List Addr} {e : Env} (s : SIM c σ H G F e) (st : Step H (shr G H (lent H F)) [] H2 G2 F2) (sub : Sub G2 H2) :
    ∃ Gf, SIM c σ H2 Gf F e ∧ Step H G F H2 Gf F ∧ Gle Gf G2 := by
  have le : Gle G (shr G H (lent H F)) := shr_le fun a ha => s.gf a (List.mem_filter.mp ha).1
  have gle2 : Gle G G2 := le.trans st.gle
  have hout : ∀ a, a ∉ F → (fun a => if a ∈ F then none else G2 a) a = G2 a := fun a ha => if_neg ha
  have gle3 : Gle G (fun a => if a ∈ F then none else G2 a) := fun a o h => by
    have : a ∉ F := fun z => by rw [s.gf a z] at h; cases h
    have e2 := hout a this
    rcases gle2 a o h with z | ⟨z, ob, y⟩
    · exact .inl (e2.trans z)
    · exact .inr ⟨z, ob, e2.trans y⟩
  have ag : AgreeOn F H H2 := fun a ha o h => by
    obtain ⟨o2, h2, h3⟩ := REnv.seqs s.ren a ha
    rw [h] at h2
    cases h2
    by_cases hl : a ∈ lent H F
    · have : shr G H (lent H F) a = some o := by unfold shr; rw [if_pos hl]; exact h
      have nd : ¬ isDict o := fun z => by
        have := (List.mem_filter.mp hl).2
        rw [h] at this
        cases o <;> first | exact z | cases this
      rcases sub a o (st.gle.ex this nd) with ⟨z, _⟩ | ⟨z, _⟩ | ⟨q, z, _⟩
      · exact z
      · exact absurd z nd
      · rw [z] at h3; exact h3.elim
    · have gn : G2 a = none := by
        cases q : G2 a with
        | none => rfl
        | some o2 =>
          rcases st.fG a (by rw [q]; simp) with z | z | z
          · unfold shr at z
            rw [if_neg hl] at z
            exact absurd (s.gf a ha) z
          · cases z
          · rw [h] at z; cases z
      exact st.keep a o h (by cases o <;> first | exact h3 | trivial) (by simp) gn
  refine ⟨fun a => if a ∈ F then none else G2 a, ⟨fun a o h => ?_, REnv.mono gle3 ag s.ren, s.nd, fun a ha => if_pos ha⟩, ⟨fun a o h n hf gn => st.keep a o h n (by simp) ((hout a hf).symm.trans gn), st.some, gle3, fun a h => .inl h, fun a h => ?_⟩, Gle.of fun a o h => ?_⟩
  · have h : (if a ∈ F then none else G2 a) = some o := h
    split at h
    · cases h
    · rename_i hf
      refine (sub a o h).imp id (Or.imp id fun ⟨y, z, t⟩ => ⟨y, z, ?_⟩)
      obtain ⟨ps, h1, h2, h3⟩ := t
      refine ⟨ps, h1, h2, fun pos cv hc => ?_⟩
      obtain ⟨c0, e1, e2⟩ := h3 pos cv hc
      refine ⟨c0, e1, ?_⟩
      show (if c0 ∈ F then none else G2 c0) = _
      rw [if_neg]
      · exact e2
      · intro hF
        obtain ⟨o2, h4, h5⟩ := REnv.seqs s.ren c0 hF
        have := ag c0 hF o2 h4
        rw [sub.ext e2] at this
        cases this
        exact h5
  · have h : (if a ∈ F then none else G2 a) ≠ none := h
    split at h
    · exact absurd rfl h
    · rename_i hf
      rcases st.fG a h with z | z | z
      · unfold shr at z
        split at z
        · rename_i hl
          exact absurd (List.mem_filter.mp hl).1 hf
        · exact .inl z
      · cases z
      · exact .inr (.inr z)
  · have h : (if a ∈ F then none else G2 a) = some o := h
    split at h
    · cases h
    · exact h
theorem ev_callB {f : Nat} {l : MAs} : ev C (.callB f l) = fun e => (evb C l e).bind fun os e => match resTs os e with
    | some ds => (match C f (ds.map .s) with
      | .ok (.s d) => if scaD d then .ok (.s d) e else .bad
      | .exc c => .exc c e
      | _ => .bad)
    | none => .bad := by funext e; rfl
theorem RS.sca {G G' : Hp} {d : D} {v : V} (h : scaD d = true) (r : RS c G d v) : RS c G' d v := by
  cases d <;> first | (simp [scaD] at h; done) | (simpa [RS] using r)
theorem ok_callB (K : Ctx M c Ex N sc top lvl X) {fn : Nm} {np : Nat → Nat} (W : CallOk M c C lvl fn np) {f : Nat} {l : MAs} {r : List Expr → Bool} (hr : ∀ es, r es = true → PA X es (rdX c Ex (repL (c := c)) (evb C l)) ∧ es.all noStar = true) {x : Expr}
    (h : mCall sc (fn f) r x = true) : Good c Ex X C (.callB f l) x := by
  unfold mCall at h
  split at h
  · rename_i y p0 e0 es pos
    simp only [Bool.and_eq_true, decide_eq_true_eq] at h
    obtain ⟨⟨⟨hg, hn⟩, hd⟩, hr1⟩ := h
    obtain ⟨pa, hs⟩ := hr _ hr1
    obtain ⟨a, fd, ps, F, hm, hk, hb⟩ := W.ok f y hn
    have p1 := K.p
    have p2 := K.w
    have p3 := K.k
    have p4 := K.mg
    have p5 := K.base
    simp only [List.all_cons, Bool.and_eq_true] at hs
    have hF : FnOk X.prog X.w X.K X.mg X.base (L2N.CX X.prog X.w) lvl a fd ps (spC c C f (np f)) := by rw [p1, p2, p3, p4, p5]; exact F
    have pass : Passes (L2N.CX X.prog X.w) X Ex := L2N.passes_call K.tk fun _ _ _ _ h => h
    refine .plain K.hK (PE.weak (pe_call hF (K.room.mono (Nat.le_succ _)) (K.gl hg) (by rw [p4]; exact hm) (by rw [p3]; exact hk) (by rw [p3]; exact hb) .nil pass pa (hdb := hd) (he := star_cons hs.1) (hpl := ?_)) fun σ H Q h => ?_) rfl rfl (fun j e => by cases e)
    · have := nostars es (env := X.env) hs.2
      simp only [backTo, List.any_map]
      exact this
    · rw [ev_callB] at h
      obtain ⟨G, F0, e, s, h⟩ := h
      refine (rd_at (rep1 := repL (c := c)) s Step.refl h).imp fun vs H1 q => ?_
      obtain ⟨G1, F1, Fr1, e1, os, s1, _, st1, rp, nd1, fr1, q, _⟩ := q
      obtain ⟨rfl, rp2⟩ := rp
      have st1 : Step H G F0 H1 G1 F1 := by simpa using st1
      rw [List.append_nil]
      cases hres : resTs os e1 with
      | none => simp only [hres] at q; exact q.elim
      | some ds =>
        simp only [hres] at q
        have rs := s1.lend hres ⟨rfl, rp2⟩
        have le : Gle G1 (shr G1 H1 (lent H1 F1)) := shr_le fun a ha => s1.gf a (List.mem_filter.mp ha).1
        have hne : C f (ds.map .s) ≠ .bad := fun z => by rw [z] at q; exact q.elim
        have har := W.ar f _ hne
        rw [List.length_map] at har
        refine ⟨by rw [rs.len]; exact har, _, ds.map .s, [], lend_sub s1, s1.ren.marks.mono le, ROL_s.mpr ⟨rs, rfl⟩, List.nodup_nil, (fun _ z => by cases z), ?_⟩
        revert q
        cases C f (ds.map .s) with
        | ok r =>
          cases r with
          | s d =>
            intro q v H2 G2 F2 st2 sub2 ro2 nd2 fr2
            dsimp only at q
            split at q
            · rename_i hsc
              obtain ⟨Gf, s3, st3, _⟩ := s1.back2 st2 sub2
              simp only [RO] at ro2
              exact q v H2 Gf F1 [] s3 (by simpa using st1.trans st3) (by simp only [repO, RO]; exact ⟨RS.sca hsc ro2.1, trivial⟩) (by simpa using s3.nd) (fun _ z => by cases z)
            · exact q.elim
          | _ => exact fun q => q.elim
        | exc k =>
          intro q H2 G2 st2 sub2
          obtain ⟨Gf, s3, st3, _⟩ := s1.back2 st2 sub2
          exact q H2 Gf F1 s3 (st1.trans st3)
        | bad => exact fun q => q
  · cases h
end
end MW
namespace MW
open L2 PyProof.Rows PySem.Spec PySem
section
variable {C : CallS}
theorem bind_ok {α β : Type} {x : Out α} {f : α → Env → Out β} {b : β} {e : Env} (h : x.bind f = .ok b e) : ∃ a e1, x = .ok a e1 ∧ f a e1 = .ok b e := by
  cases x with
  | ok a e1 => exact ⟨a, e1, rfl, h⟩
  | exc k e1 => cases h
  | bad => cases h
theorem opt_ok {α : Type} {x : Option α} {b : α} {e e' : Env} (h : Out.opt x e = .ok b e') : x = some b ∧ e' = e := by
  cases x with
  | none => cases h
  | some a => cases h; exact ⟨rfl, rfl⟩
theorem opd_len {a : ME} {r : Env → Out OD} (hr : ∀ e od e1, r e = .ok od e1 → e1.length = e.length) {e e1 : Env} {o : Opd} (h : opd a r e = .ok o e1) : e1.length = e.length := by
  have key : ∀ {e}, ((r e).bind fun od e => .ok (.v od.toD) e) = .ok o e1 → e1.length = e.length := fun {e} h => by
    obtain ⟨od, e2, h1, h2⟩ := bind_ok h
    cases h2; exact hr _ _ _ h1
  unfold opd at h
  split at h
  · split at h
    · cases h; rfl
    · cases h
  · exact key h
theorem setTs_len : ∀ {is : List Nat} {ds : List D} {e e1 : Env}, setTs is ds e = some e1 → e1.length = e.length
  | [], ds, e, e1, h => by simp only [setTs] at h; cases h; rfl
  | i :: is, [], e, e1, h => by simp only [setTs] at h; cases h; rfl
  | i :: is, d :: ds, e, e1, h => by
    simp only [setTs] at h
    split at h
    · rw [setTs_len h, List.length_set]
    · cases h
theorem setT_len {t : List Nat} {one : Bool} {d : D} {e e1 : Env} (h : setT t one d e = some e1) : e1.length = e.length := by
  unfold setT at h
  split at h
  · split at h
    · cases h; simp
    · cases h
  · split at h
    · split at h
      · exact setTs_len h
      · cases h
    · cases h
  · cases h
theorem sealO_len {m : Bool} {f : Env → Out OD} (hf : ∀ e b e1, f e = .ok b e1 → e1.length = e.length) {e e1 : Env} {b : OD} (h : sealO m f e = .ok b e1) : e1.length = e.length := by
  unfold sealO at h
  obtain ⟨o, e2, h1, h2⟩ := bind_ok h
  cases h2
  exact hf _ _ _ h1
theorem compRun_len {own t : List Nat} {one : Bool} {tst : Env → Out Bool} {elt : Env → Out OD} (ht : ∀ e b e1, tst e = .ok b e1 → e1.length = e.length) (he : ∀ e b e1, elt e = .ok b e1 → e1.length = e.length) :
    ∀ {l : List D} {acc a : List OD} {e e' : Env}, compRun own t one tst elt l acc e = .ok a e' → e'.length = e.length
  | [], acc, a, e, e', h => by simp only [compRun] at h; cases h; rfl
  | d :: ds, acc, a, e, e', h => by
    simp only [compRun] at h
    split at h
    · cases h
    · rename_i e1 q
      have l1 : e1.length = e.length := by
        split at q
        · rw [setT_len q, wipeE_len]
        · cases q
      split at h
      · rename_i e2 q2
        split at h
        · rename_i od e3 q3
          split at h
          · rw [compRun_len ht he h, he _ _ _ q3, ht _ _ _ q2, l1]
          · cases h
        · cases h
      · rename_i e2 q2
        rw [compRun_len ht he h, ht _ _ _ q2, l1]
      · cases h
theorem capE_len : ∀ {js : List Nat} {e e1 : Env} {ws : List D}, capE js e = some (ws, e1) → e1.length = e.length
  | [], e, e1, ws, h => by simp only [capE, Option.some.injEq, Prod.mk.injEq] at h; rw [← h.2]
  | j :: js, e, e1, ws, h => by
    simp only [capE] at h
    split at h
    · simp only [Option.map_eq_some_iff] at h
      obtain ⟨⟨ws', e'⟩, h1, h2⟩ := h
      simp only [Prod.mk.injEq] at h2
      have := capE_len h1
      rw [List.length_set] at this
      rw [← h2.2]
      exact this
    · cases h
mutual
theorem ev_len : ∀ (a : ME) {e e1 : Env} {od : OD}, ev C a e = .ok od e1 → e1.length = e.length
  | .var i, e, e1, od, h => by
    simp only [ev] at h
    split at h
    · cases h; simp
    · cases h
  | .mov i, e, e1, od, h => by
    simp only [ev] at h
    split at h
    · cases h; simp
    · cases h
  | .bv i, e, e1, od, h => by
    simp only [ev] at h
    split at h
    · cases h; rfl
    · cases h
  | .cint i, e, e1, od, h => by simp only [ev] at h; cases h; rfl
  | .cbl i, e, e1, od, h => by simp only [ev] at h; cases h; rfl
  | .cnon, e, e1, od, h => by simp only [ev] at h; cases h; rfl
  | .cstr i, e, e1, od, h => by simp only [ev] at h; cases h; rfl
  | .p1 p a, e, e1, od, h => by
    rw [ev_p1] at h
    obtain ⟨o, e2, h1, h2⟩ := bind_ok h
    split at h2
    · obtain ⟨_, rfl⟩ := opt_ok h2
      exact opd_len (fun e od e1 h => ev_len a h) h1
    · cases h2
  | .p2 p a b, e, e1, od, h => by
    rw [ev_p2] at h
    obtain ⟨o, e2, h1, h2⟩ := bind_ok h
    obtain ⟨o2, e3, h3, h4⟩ := bind_ok h2
    split at h4
    · obtain ⟨_, rfl⟩ := opt_ok h4
      rw [opd_len (fun e od e1 h => ev_len b h) h3, opd_len (fun e od e1 h => ev_len a h) h1]
    · cases h4
  | .slc a b d, e, e1, od, h => by
    rw [ev_slc] at h
    obtain ⟨o, e2, h1, h2⟩ := bind_ok h
    obtain ⟨o2, e3, h3, h4⟩ := bind_ok h2
    split at h4
    · obtain ⟨o3, e4, h5, h6⟩ := bind_ok h4
      split at h6
      · split at h6
        · obtain ⟨_, rfl⟩ := opt_ok h6
          rw [ev_len d h5, ev_len b h3, opd_len (fun e od e1 h => ev_len a h) h1]
        · cases h6
      · cases h6
    · cases h4
  | .mth p a b, e, e1, od, h => by
    rw [ev_mth] at h
    obtain ⟨o, e2, h1, h2⟩ := bind_ok h
    split at h2
    · split at h2
      · obtain ⟨o2, e3, h3, h4⟩ := bind_ok h2
        split at h4
        · obtain ⟨_, rfl⟩ := opt_ok h4
          rw [opd_len (fun e od e1 h => ev_len b h) h3, opd_len (fun e od e1 h => ev_len a h) h1]
        · cases h4
      · cases h2
    · cases h2
  | .chain p q a b d, e, e1, od, h => by
    rw [ev_chain] at h
    obtain ⟨o, e2, h1, h2⟩ := bind_ok h
    obtain ⟨o2, e3, h3, h4⟩ := bind_ok h2
    split at h4
    · obtain ⟨o3, e4, h5, h6⟩ := bind_ok h4
      obtain ⟨_, rfl⟩ := opt_ok h6
      rw [ev_len d h5, ev_len b h3, ev_len a h1]
    · cases h4; rw [ev_len b h3, ev_len a h1]
    · cases h4
  | .and2 a b, e, e1, od, h => by
    rw [ev_and] at h
    obtain ⟨o, e2, h1, h2⟩ := bind_ok h
    split at h2
    · rw [ev_len b h2, ev_len a h1]
    · cases h2; exact ev_len a h1
    · cases h2
  | .or2 a b, e, e1, od, h => by
    rw [ev_or] at h
    obtain ⟨o, e2, h1, h2⟩ := bind_ok h
    split at h2
    · cases h2; exact ev_len a h1
    · rw [ev_len b h2, ev_len a h1]
    · cases h2
  | .not1 a, e, e1, od, h => by
    rw [ev_not] at h
    obtain ⟨o, e2, h1, h2⟩ := bind_ok h
    split at h2
    · cases h2; exact ev_len a h1
    · cases h2
  | .ife d a b, e, e1, od, h => by
    rw [ev_ife] at h
    obtain ⟨o, e2, h1, h2⟩ := bind_ok h
    split at h2
    · rw [ev_len a h2, ev_len d h1]
    · rw [ev_len b h2, ev_len d h1]
    · cases h2
  | .tup l, e, e1, od, h => by
    rw [ev_tup] at h
    obtain ⟨o, e2, h1, h2⟩ := bind_ok h
    split at h2
    · cases h2; exact eva_len l h1
    · cases h2
  | .lst l, e, e1, od, h => by
    rw [ev_lst] at h
    obtain ⟨o, e2, h1, h2⟩ := bind_ok h
    split at h2
    · cases h2; exact eva_len l h1
    · cases h2
  | .call f l, e, e1, od, h => by
    rw [ev_call] at h
    obtain ⟨o, e2, h1, h2⟩ := bind_ok h
    split at h2
    · cases h2; exact eva_len l h1
    · cases h2
    · cases h2
  | .tupK l, e, e1, od, h => by
    rw [ev_tupK] at h
    obtain ⟨o, e2, h1, h2⟩ := bind_ok h
    split at h2
    · split at h2
      · cases h2; exact eva_len l h1
      · cases h2
    · cases h2
  | .callv i l, e, e1, od, h => by
    simp only [ev] at h
    split at h
    · obtain ⟨o, e2, h1, h2⟩ := bind_ok h
      split at h2
      · cases h2; exact eva_len l h1
      · cases h2
      · cases h2
    · cases h
  | .callL f a g js, e, e1, od, h => by
    simp only [ev] at h
    split at h
    · rename_i ws e0 hc
      obtain ⟨o, e2, h1, h2⟩ := bind_ok h
      split at h2
      · split at h2
        · split at h2
          · cases h2; rw [ev_len a h1, capE_len hc]
          · cases h2
        · cases h2
        · cases h2
      · cases h2
    · cases h
  | .callB f l, e, e1, od, h => by
    simp only [ev] at h
    obtain ⟨o, e2, h1, h2⟩ := bind_ok h
    split at h2
    · split at h2
      · split at h2
        · cases h2; exact evb_len l h1
        · cases h2
      · cases h2
      · cases h2
    · cases h2
  | .skey f a, e, e1, od, h => by
    rw [ev_skey] at h
    obtain ⟨o, e2, h1, h2⟩ := bind_ok h
    split at h2
    · split at h2
      · cases h2; exact ev_len a h1
      · cases h2
    · cases h2
  | .glb y d, e, e1, od, h => by simp only [ev] at h; cases h; rfl
  | .pop i, e, e1, od, h => by
    simp only [ev] at h
    split at h
    · split at h
      · cases h; simp
      · cases h
    · cases h
  | .upper a, e, e1, od, h => by
    rw [ev_upper] at h
    obtain ⟨o, e2, h1, h2⟩ := bind_ok h
    split at h2
    · split at h2
      · cases h2; exact ev_len a h1
      · cases h2
    · cases h2
  | .dnew t, e, e1, od, h => by simp only [ev] at h; cases h; rfl
  | .get3 a k d, e, e1, od, h => by
    rw [ev_get3] at h
    obtain ⟨o, e2, h1, h2⟩ := bind_ok h
    split at h2
    · obtain ⟨o2, e3, h3, h4⟩ := bind_ok h2
      split at h4
      · obtain ⟨o3, e4, h5, h6⟩ := bind_ok h4
        split at h6
        · cases h6
          rw [ev_len d h5, ev_len k h3, opd_len (fun e od e1 h => ev_len a h) h1]
        · cases h6
      · cases h4
    · obtain ⟨o2, e3, h3, h4⟩ := bind_ok h2
      split at h4
      · obtain ⟨o3, e4, h5, h6⟩ := bind_ok h4
        split at h6
        · cases h6
          rw [ev_len d h5, ev_len k h3, opd_len (fun e od e1 h => ev_len a h) h1]
        · cases h6
      · cases h4
    · cases h2
  | .comp sl own t one it cond elt, e, e1, od, h => by
    rw [ev_comp] at h
    obtain ⟨l, e2, h1, h2⟩ := bind_ok h
    split at h2
    · rename_i acc e3 h3
      split at h2
      · cases h2
        rw [backE_len, compRun_len (fun e b e1 h => evo_len cond h) (fun e b e1 h => sealO_len (fun e b e1 h => ev_len elt h) h) h3, evi_len it h1]
      · cases h2
    · cases h2
theorem eva_len : ∀ (l : MAs) {e e1 : Env} {od : List OD}, eva C l e = .ok od e1 → e1.length = e.length
  | .nil, e, e1, od, h => by simp only [eva] at h; cases h; rfl
  | .cons m a l, e, e1, od, h => by
    rw [eva_cons] at h
    obtain ⟨o, e2, h1, h2⟩ := bind_ok h
    obtain ⟨o2, e3, h3, h4⟩ := bind_ok h2
    cases h4
    rw [eva_len l h3, ev_len a h1]
theorem evb_len : ∀ (l : MAs) {e e1 : Env} {od : List Opd}, evb C l e = .ok od e1 → e1.length = e.length
  | .nil, e, e1, od, h => by simp only [evb] at h; cases h; rfl
  | .cons m a l, e, e1, od, h => by
    rw [evb_cons] at h
    obtain ⟨o, e2, h1, h2⟩ := bind_ok h
    obtain ⟨o2, e3, h3, h4⟩ := bind_ok h2
    cases h4
    rw [evb_len l h3, opd_len (fun e od e1 h => ev_len a h) h1]
theorem evo_len : ∀ (l : MO) {e e1 : Env} {od : Bool}, evo C l e = .ok od e1 → e1.length = e.length
  | .none, e, e1, od, h => by simp only [evo] at h; cases h; rfl
  | .some a, e, e1, od, h => by
    simp only [evo] at h
    obtain ⟨o, e2, h1, h2⟩ := bind_ok h
    obtain ⟨_, rfl⟩ := opt_ok h2
    exact ev_len a h1
theorem evi_len : ∀ (l : MI) {e e1 : Env} {od : List D}, evi C l e = .ok od e1 → e1.length = e.length
  | .seq a, e, e1, od, h => by
    rw [evi_seq] at h
    obtain ⟨o, e2, h1, h2⟩ := bind_ok h
    obtain ⟨_, rfl⟩ := opt_ok h2
    exact ev_len a h1
  | .rng1 a, e, e1, od, h => by
    rw [evi_rng1] at h
    obtain ⟨o, e2, h1, h2⟩ := bind_ok h
    split at h2
    · split at h2
      · cases h2; exact ev_len a h1
      · cases h2
    · cases h2
  | .rng2 a b, e, e1, od, h => by
    rw [evi_rng2] at h
    obtain ⟨o, e2, h1, h2⟩ := bind_ok h
    obtain ⟨o2, e3, h3, h4⟩ := bind_ok h2
    split at h4
    · split at h4
      · cases h4; rw [ev_len b h3, ev_len a h1]
      · cases h4
    · cases h4
  | .enum a, e, e1, od, h => by
    rw [evi_enum] at h
    obtain ⟨o, e2, h1, h2⟩ := bind_ok h
    split at h2
    · cases h2; exact ev_len a h1
    · cases h2; exact ev_len a h1
    · cases h2
  | .keys a, e, e1, od, h => by
    rw [evi_keys] at h
    obtain ⟨o, e2, h1, h2⟩ := bind_ok h
    split at h2
    · cases h2; exact ev_len a h1
    · cases h2
  | .chars a, e, e1, od, h => by
    rw [evi_chars] at h
    obtain ⟨o, e2, h1, h2⟩ := bind_ok h
    split at h2
    · cases h2; exact ev_len a h1
    · cases h2
  | .vals a, e, e1, od, h => by
    rw [evi_vals] at h
    obtain ⟨o, e2, h1, h2⟩ := bind_ok h
    split at h2
    · cases h2; exact ev_len a h1
    · cases h2
  | .zip a b, e, e1, od, h => by
    rw [evi_zip] at h
    obtain ⟨o, e2, h1, h2⟩ := bind_ok h
    obtain ⟨o2, e3, h3, h4⟩ := bind_ok h2
    split at h4
    · cases h4; rw [ev_len b h3, ev_len a h1]
    · cases h4; rw [ev_len b h3, ev_len a h1]
    · cases h4
end
end
section
variable {c : RC} {M : Mo} {N : List Str} {lvl : Nat} {C : CallS} {fn : Nm} {np : Nat → Nat}
/-- a comprehension's parts -/
structure LcOk (c : RC) (Ex : XK) (X : Cx) (C : CallS) (sl : Bool) (own t : List Nat) (one : Bool) (it : MI) (cond : MO) (elt : ME) (x tg iter : Expr) (ifs : List Expr) (scope : Scope) (own' : List (Str × Nat)) : Prop where
  nd : X.N.Nodup
  hi : PI X tg iter (riX c Ex (evi C it))
  ok : BlkOk X.N X.env.scope scope own'
  hg : ∀ (s : Shared) (H : Hp) (C0 : Addr) (cl : List (Str × Addr)) (fp : List Addr), PG (X.blk s H scope (compEnvC scope cl C0 X.env) fp) tg (gT c.K t one)
  ht : ∀ (s : Shared) (H : Hp) (C0 : Addr) (cl : List (Str × Addr)) (fp : List Addr), PTs (X.blk s H scope (compEnvC scope cl C0 X.env) fp) ifs (rdX c E0 repB (evo C cond))
  he : ∀ (s : Shared) (H : Hp) (C0 : Addr) (cl : List (Str × Addr)) (fp : List Addr), PE (X.blk s H scope (compEnvC scope cl C0 X.env) fp) x (rdX c E0 (repO c) (sealO sl (ev C elt)))
  hs : ∀ v, foldedSetIterable iter X.env v = pure v
  w : ∀ σ H Q, rdX c Ex (repO c) (ev C (.comp sl own t one it cond elt)) σ H Q → tLc (riX c Ex (evi C it)) (gT c.K t one) (rdX c E0 repB (evo C cond)) (rdX c E0 (repO c) (sealO sl (ev C elt))) (own'.map (·.2)) σ H Q
theorem lc_facts {Ex : XK} {sc : Scope} {top : Bool} {X : Cx} (K : Ctx M c Ex N sc top lvl X) {sl : Bool} {own t : List Nat} {one : Bool} {it : MI} {cond : MO} {elt : ME}
    (hI : ∀ {Ex : XK} {sc : Scope} {top : Bool} {X : Cx} (_ : Ctx M c Ex N sc top lvl X) {tg x : Expr}, mI fn N it sc tg x = true → PI X tg x (riX c Ex (evi C it)))
    (hO : ∀ {Ex : XK} {sc : Scope} {top : Bool} {X : Cx} (_ : Ctx M c Ex N sc top lvl X) {es : List Expr}, mO fn N cond sc es = true → PTs X es (rdX c Ex repB (evo C cond)))
    (hE : ∀ {Ex : XK} {sc : Scope} {top : Bool} {X : Cx} (_ : Ctx M c Ex N sc top lvl X) {x : Expr}, mE fn N elt sc x = true → PE X x (rdX c Ex (repO c) (ev C elt)))
    {x : Expr} (h : mE fn N (.comp sl own t one it cond elt) sc x = true) : ∃ y tg iter ifs scope pos own', x = .ListComp y [⟨tg, iter, ifs, 0⟩] scope pos ∧ LcOk c Ex X C sl own t one it cond elt y tg iter ifs scope own' := by
  simp only [mE, mComp] at h
  split at h
  · rename_i y tg iter ifs scope pos
    simp only [Bool.and_eq_true] at h
    obtain ⟨⟨⟨⟨⟨⟨h1, h2⟩, h3⟩, h4⟩, h5⟩, h6⟩, h7⟩ := h
    obtain ⟨t', w, rfl⟩ := ok_comp (Ex := Ex) (top := top) (X := X) K h2 h4 (hI K h5) (fun X' K' => hO K' h6) (fun X' K' => PE.weak (hE K' h7) fun _ _ _ q => rdE_seal q)
      (fun e b e1 h => evo_len cond h) (fun e b e1 h => sealO_len (fun e b e1 h => ev_len elt h) h) (fun d e e1 h => setT_len h)
    have eo : (own.map fun i => (N.getD i Str.empty, i)).map (·.2) = own := by
      rw [List.map_map]
      exact (List.map_congr_left fun i _ => rfl).trans (List.map_id _)
    refine ⟨y, tg, iter, ifs, scope, pos, own.map fun i => (N.getD i Str.empty, i), rfl, by rw [K.n]; exact K.nd, hI K h5, ?_, fun s H C0 cl fp => ?_, fun s H C0 cl fp => hO (blkCtx K scope s H C0 cl fp) h6, fun s H C0 cl fp => PE.weak (hE (blkCtx K scope s H C0 cl fp) h7) fun _ _ _ q => rdE_seal q, fold_noSet (mI_noSet h5), by rw [eo]; exact w⟩
    · rw [K.n, K.sc]; exact blkOk_by h2
    · have ndB : (X.blk s H scope (compEnvC scope cl C0 X.env) fp).N.Nodup := by show X.N.Nodup; rw [K.n]; exact K.nd
      refine pgT0 (X := X.blk s H scope (compEnvC scope cl C0 X.env) fp) (sc := scope) (tp := true) ndB K.calm K.hK (fun i x h => ?_) h3
      unfold storeOk at h
      simp only [Bool.and_eq_true, Bool.or_eq_true, decide_eq_true_eq, true_and] at h
      obtain ⟨a1, a2⟩ := h
      have hr : (X.blk s H scope (compEnvC scope cl C0 X.env) fp).env.scope = relS scope X.env.scope := rfl
      refine ⟨by rw [show (X.blk s H scope (compEnvC scope cl C0 X.env) fp).N = X.N from rfl, K.n]; exact a1, ?_, ?_⟩
      · rw [hr]
        rcases a2 with a2 | a2
        · exact .inl (lookup_relS_keep (by decide) a2)
        · exact .inr (lookup_relS_keep (by decide) a2)
      · rcases a2 with a2 | a2
        · right; rw [hr]; exact lookup_relS_keep (by decide) a2
        · left
          show (scope.names.lookup x == some NameKind.cell) = true
          rw [a2]
          rfl
  · cases h
theorem LcOk.pe {Ex : XK} {X : Cx} {sl : Bool} {own t : List Nat} {one : Bool} {it : MI} {cond : MO} {elt : ME} {x tg iter : Expr} {ifs : List Expr} {scope : Scope} {own' : List (Str × Nat)} {pos : Pos} (L : LcOk c Ex X C sl own t one it cond elt x tg iter ifs scope own') (hc : X.calm = true) :
    PE X (.ListComp x [⟨tg, iter, ifs, 0⟩] scope pos) (rdX c Ex (repO c) (ev C (.comp sl own t one it cond elt))) :=
  PE.weak (pe_lc hc L.nd L.hi L.ok L.hg L.ht L.he L.hs) L.w
mutual
theorem sound_E (W : CallOk M c C lvl fn np) : ∀ (a : ME) {Ex : XK} {sc : Scope} {top : Bool} {X : Cx} (K : Ctx M c Ex N sc top lvl X) {x : Expr}, mE fn N a sc x = true → Good c Ex X C a x
  | .var i, Ex, sc, top, X, K, x, h => by simp only [mE] at h; exact ok_var K h
  | .mov i, Ex, sc, top, X, K, x, h => by simp only [mE] at h; exact ok_mov K h
  | .bv i, Ex, sc, top, X, K, x, h => by simp only [mE] at h; exact ok_bv K h
  | .cint i, Ex, sc, top, X, K, x, h => by
    simp only [mE] at h
    exact ok_const K h (.int i) (.int i) (fun e => rfl) (fun G => rsInt _) (fun i e => by cases e) fun k j pos q => by
      obtain rfl := of_decide_eq_true q; exact pe_int
  | .cbl i, Ex, sc, top, X, K, x, h => by
    simp only [mE] at h
    exact ok_const K h (.bl i) (.bl i) (fun e => rfl) (fun G => rsBl _) (fun i e => by cases e) fun k j pos q => by
      obtain rfl := of_decide_eq_true q; exact pe_bl
  | .cnon, Ex, sc, top, X, K, x, h => by
    simp only [mE] at h
    exact ok_const K h .non .non (fun e => rfl) (fun G => rsNon) (fun i e => by cases e) fun k j pos q => by
      obtain rfl := of_decide_eq_true q; exact pe_non
  | .cstr i, Ex, sc, top, X, K, x, h => by
    simp only [mE] at h
    exact ok_const K h (.str i) (.str i) (fun e => rfl) (fun G => rsStr _) (fun i e => by cases e) fun k j pos q => by
      obtain rfl := of_decide_eq_true q; exact pe_str
  | .p1 p a, Ex, sc, top, X, K, x, h => by
    simp only [mE] at h
    exact ok_m1G K (fun y q => sound_E W a K q) h
  | .p2 p a b, Ex, sc, top, X, K, x, h => by
    simp only [mE] at h
    exact ok_m2 K (fun y q => sound_E W a K q) (fun y q => sound_E W b K q) h
  | .slc a b d, Ex, sc, top, X, K, x, h => by
    simp only [mE] at h
    exact ok_slc K (fun y q => sound_E W a K q) (fun y q => sound_E W b K q) (fun y q => sound_E W d K q) h
  | .mth p a b, Ex, sc, top, X, K, x, h => by
    simp only [mE] at h
    exact ok_mth K (fun y q => ⟨sound_E W a K q, mE_noSup q⟩) (fun y q => sound_E W b K q) h
  | .chain p q a b d, Ex, sc, top, X, K, x, h => by
    simp only [mE] at h
    exact ok_ch K (fun y q => sound_E W a K q) (fun y q => sound_E W b K q) (fun y q => sound_E W d K q) h
  | .and2 a b, Ex, sc, top, X, K, x, h => by
    simp only [mE] at h
    exact ok_bool (op := .And) K rfl (fun y q => sound_E W a K q) (fun y q => sound_E W b K q) h
  | .or2 a b, Ex, sc, top, X, K, x, h => by
    simp only [mE] at h
    exact ok_bool (op := .Or) K rfl (fun y q => sound_E W a K q) (fun y q => sound_E W b K q) h
  | .not1 a, Ex, sc, top, X, K, x, h => by
    simp only [mE] at h
    exact ok_not K (fun y q => sound_E W a K q) h
  | .ife d a b, Ex, sc, top, X, K, x, h => by
    simp only [mE] at h
    exact ok_ife' K (fun y q => sound_E W d K q) (fun y q => sound_E W a K q) (fun y q => sound_E W b K q) h
  | .tup l, Ex, sc, top, X, K, x, h => by
    simp only [mE] at h
    exact ok_tup K (fun es q => (sound_A W l K q).1) h
  | .lst l, Ex, sc, top, X, K, x, h => by
    simp only [mE] at h
    exact ok_lst K (fun es q => (sound_A W l K q).1) h
  | .call f l, Ex, sc, top, X, K, x, h => by
    simp only [mE] at h
    exact ok_call K W (fun es q => sound_A W l K q) h
  | .tupK l, Ex, sc, top, X, K, x, h => by
    simp only [mE] at h
    exact ok_tupK K (fun es q => (sound_A W l K q).1) h
  | .callv i l, Ex, sc, top, X, K, x, h => by
    simp only [mE] at h
    exact ok_callv K W (fun es q => sound_A W l K q) h
  | .callL f a g js, Ex, sc, top, X, K, x, h => by
    simp only [mE] at h
    cases h
  | .callB f l, Ex, sc, top, X, K, x, h => by
    simp only [mE] at h
    exact ok_callB K W (fun es q => sound_B W l K q) h
  | .skey f a, Ex, sc, top, X, K, x, h => by
    simp only [mE] at h
    exact ok_skey K W (fun y q => sound_E W a K q) h
  | .glb y d, Ex, sc, top, X, K, x, h => by
    simp only [mE] at h
    exact ok_glb K W h
  | .dnew t, Ex, sc, top, X, K, x, h => by
    simp only [mE] at h
    exact ok_dnew K h
  | .pop i, Ex, sc, top, X, K, x, h => by
    simp only [mE] at h
    exact ok_pop K h
  | .upper a, Ex, sc, top, X, K, x, h => by
    simp only [mE] at h
    exact ok_upper K (fun y q => ⟨sound_E W a K q, mE_noSup q⟩) h
  | .get3 a k d, Ex, sc, top, X, K, x, h => by
    simp only [mE] at h
    exact ok_get3 K (fun y q => ⟨sound_E W a K q, mE_noSup q⟩) (fun y q => sound_E W k K q) (fun y q => sound_E W d K q) h
  | .comp sl own t one it cond elt, Ex, sc, top, X, K, x, h => by
    obtain ⟨y, tg, iter, ifs, scope, pos, own', rfl, L⟩ := lc_facts K (fun {_ _ _ _} K {_ _} h => sound_I W it K h) (fun {_ _ _ _} K {_} h => sound_O W cond K h) (fun {_ _ _ _} K {_} h => (sound_E W elt K h).pe) h
    exact .plain K.hK (L.pe K.calm) rfl rfl (fun i e => by cases e)
theorem sound_A (W : CallOk M c C lvl fn np) : ∀ (l : MAs) {Ex : XK} {sc : Scope} {top : Bool} {X : Cx} (K : Ctx M c Ex N sc top lvl X) {es : List Expr}, mA fn N l sc es = true → PA X es (rdX c Ex (repA c) (eva C l)) ∧ es.all noStar = true
  | .nil, Ex, sc, top, X, K, es, h => by
    simp only [mA] at h
    cases es with
    | nil => exact ⟨pa_nil', rfl⟩
    | cons => cases h
  | .cons m a l, Ex, sc, top, X, K, es, h => by
    simp only [mA] at h
    cases es with
    | nil => cases h
    | cons x es =>
      simp only [Bool.and_eq_true] at h
      have g := sound_E W a K h.1
      obtain ⟨p, q⟩ := sound_A W l K h.2
      exact ⟨pa_cons' g p, by simp [g.ns, q]⟩
theorem sound_B (W : CallOk M c C lvl fn np) : ∀ (l : MAs) {Ex : XK} {sc : Scope} {top : Bool} {X : Cx} (K : Ctx M c Ex N sc top lvl X) {es : List Expr}, mA fn N l sc es = true → PA X es (rdX c Ex (repL (c := c)) (evb C l)) ∧ es.all noStar = true
  | .nil, Ex, sc, top, X, K, es, h => by
    simp only [mA] at h
    cases es with
    | nil => exact ⟨pb_nil, rfl⟩
    | cons => cases h
  | .cons m a l, Ex, sc, top, X, K, es, h => by
    simp only [mA] at h
    cases es with
    | nil => cases h
    | cons x es =>
      simp only [Bool.and_eq_true] at h
      have g := sound_E W a K h.1
      obtain ⟨p, q⟩ := sound_B W l K h.2
      exact ⟨pb_cons g p, by simp [g.ns, q]⟩
theorem sound_O (W : CallOk M c C lvl fn np) : ∀ (l : MO) {Ex : XK} {sc : Scope} {top : Bool} {X : Cx} (K : Ctx M c Ex N sc top lvl X) {es : List Expr}, mO fn N l sc es = true → PTs X es (rdX c Ex repB (evo C l))
  | .none, Ex, sc, top, X, K, es, h => by
    simp only [mO] at h
    cases es with
    | nil =>
      refine ⟨fun pins s σ H Q I q => pts_nil.run pins s σ H Q I ?_⟩
      obtain ⟨G, F, e, sm, r⟩ := q
      exact rd_endB sm Step.refl r
    | cons => cases h
  | .some a, Ex, sc, top, X, K, es, h => by
    simp only [mO] at h
    split at h
    · exact pts_one (sound_E W a K h).pt
    · cases h
theorem sound_I (W : CallOk M c C lvl fn np) : ∀ (l : MI) {Ex : XK} {sc : Scope} {top : Bool} {X : Cx} (K : Ctx M c Ex N sc top lvl X) {tg x : Expr}, mI fn N l sc tg x = true → PI X tg x (riX c Ex (evi C l))
  | .seq a, Ex, sc, top, X, K, tg, x, h => by
    simp only [mI] at h
    exact pi_seq K (sound_E W a K h)
  | .rng1 a, Ex, sc, top, X, K, tg, x, h => by
    simp only [mI, mRng1] at h
    split at h
    · simp only [Bool.and_eq_true, decide_eq_true_eq] at h
      obtain ⟨⟨h1, rfl⟩, h3⟩ := h
      exact pi_rng1' K h1 (sound_E W a K h3)
    · cases h
  | .rng2 a b, Ex, sc, top, X, K, tg, x, h => by
    simp only [mI, mRng2] at h
    split at h
    · simp only [Bool.and_eq_true, decide_eq_true_eq] at h
      obtain ⟨⟨⟨h1, rfl⟩, h3⟩, h4⟩ := h
      exact pi_rng2' K h1 (sound_E W a K h3) (sound_E W b K h4)
    · cases h
  | .enum a, Ex, sc, top, X, K, tg, x, h => by
    simp only [mI, mRng1, Bool.and_eq_true] at h
    obtain ⟨ht, h⟩ := h
    cases tg <;> first | cases ht | skip
    split at h
    · simp only [Bool.and_eq_true, decide_eq_true_eq] at h
      obtain ⟨⟨h1, rfl⟩, h3⟩ := h
      exact pi_enum' K h1 (sound_E W a K h3)
    · cases h
  | .keys a, Ex, sc, top, X, K, tg, x, h => by
    simp only [mI] at h
    exact pi_keys' K (sound_E W a K h)
  | .chars a, Ex, sc, top, X, K, tg, x, h => by
    simp only [mI] at h
    exact pi_chars' K (sound_E W a K h)
  | .vals a, Ex, sc, top, X, K, tg, x, h => by
    simp only [mI, mVals] at h
    split at h
    · simp only [Bool.and_eq_true, decide_eq_true_eq] at h
      obtain ⟨⟨rfl, h2⟩, h3⟩ := h
      exact pi_vals' K (sound_E W a K h3) (mE_noSup h3) h2
    · cases h
  | .zip a b, Ex, sc, top, X, K, tg, x, h => by
    simp only [mI, mRng2, Bool.and_eq_true] at h
    obtain ⟨ht, h⟩ := h
    cases tg <;> first | cases ht | skip
    split at h
    · simp only [Bool.and_eq_true, decide_eq_true_eq] at h
      obtain ⟨⟨⟨h1, rfl⟩, h3⟩, h4⟩ := h
      exact pi_zip' K h1 (sound_E W a K h3) (sound_E W b K h4)
    · cases h
end
end
end MW
namespace MW
open L2 PyProof.Rows PySem.Spec PySem
/-! ### statements: how they are matched -/
def noDisp : Expr → Bool
  | .Tuple .. => false
  | .List .. => false
  | _ => true
def noLc : Expr → Bool
  | .ListComp .. => false
  | _ => true
section
variable (fn : Nm) (N : List Str) (sc : Scope)
def mAsg (i : Nat) (r : Expr → Bool) : Stmt → Bool
  | .Assign [.Name x _] v _ => storeOk N sc true i x && r v
  | _ => false
def mAsgT (is : List Nat) (r : Expr → Bool) : Stmt → Bool
  | .Assign [.Tuple es _ _] v _ => tgtOk N sc true is es && noDisp v && r v
  | _ => false
def mExp (r : Expr → Bool) : Stmt → Bool
  | .Expr v _ => noLc v && r v
  | _ => false
def mMut (m : Str) (i : Nat) (r : Expr → Bool) : Stmt → Bool
  | .Expr (.Call (.Attribute (.Name x _) m' apos) [v] [] cpos) _ => slotOk N sc i x && decide (m' = m) && decide ((apos.endLine == cpos.line) = true) && r v
  | _ => false
def mSetI (i : Nat) (rk r : Expr → Bool) : Stmt → Bool
  | .Assign [.Subscript (.Name x _) k _] v _ => slotOk N sc i x && noDisp v && noSlice k && rk k && r v
  | _ => false
def mSetDD (i j1 j2 : Nat) (r : Expr → Bool) : Stmt → Bool
  | .Assign [.Subscript (.Subscript (.Name x _) (.Name y _) _) (.Name z _) _] v _ => slotOk N sc i x && slotOk N sc j1 y && slotOk N sc j2 z && noDisp v && r v
  | _ => false
def mAug (i : Nat) (r : Expr → Bool) : Stmt → Bool
  | .AugAssign (.Name x _) op v _ => storeOk N sc true i x && decide (op = .Add) && r v
  | _ => false
def mIf (rc : Expr → Bool) (ra rb : List Stmt → Bool) : Stmt → Bool
  | .If c a b _ => rc c && ra a && rb b
  | _ => false
def mRev (i : Nat) : Stmt → Bool
  | .Expr (.Call (.Attribute (.Name x _) m' apos) [] [] cpos) _ => slotOk N sc i x && decide (m' = ("reverse" : Str)) && decide ((apos.endLine == cpos.line) = true)
  | _ => false
def mWhl (rc : Expr → Bool) (rb : List Stmt → Bool) : Stmt → Bool
  | .While c b [] _ => rc c && rb b
  | _ => false
def mFor (t : List Nat) (one : Bool) (ri : Expr → Expr → Bool) (rb : List Stmt → Bool) : Stmt → Bool
  | .For tg it b [] _ => mT N sc true t one tg && ri tg it && rb b
  | _ => false
def mRet (r : Expr → Bool) : Stmt → Bool
  | .Return (some v) _ => r v
  | _ => false
def mKw (s : MS) : Stmt → Bool
  | .Return none _ => (match s with | .retN => true | _ => false)
  | .Break _ => (match s with | .brk => true | _ => false)
  | .Continue _ => (match s with | .cnt => true | _ => false)
  | .Pass _ => (match s with | .pas => true | _ => false)
  | _ => false
def names : List Expr → Option (List Str)
  | [] => some []
  | .Name x _ :: l => (names l).map (x :: ·)
  | _ => none
def mHB (sc : Scope) (e : Str) : HB → Expr → Bool
  | .isc x, .Call (.Name f _) [.Name n _, .Name y _] [] _ => gl sc f && decide (f = ("isinstance" : Str)) && decide (n = e) && decide (y = x) && gl sc y && !(y == ("__debug__" : Str))
  | .ist xs, .Call (.Name f _) [.Name n _, .Tuple es _ _] [] _ => gl sc f && decide (f = ("isinstance" : Str)) && decide (n = e) && decide (names es = some xs) && xs.all fun y => gl sc y && !(y == ("__debug__" : Str))
  | .not1 a, .UnaryOp .Not z _ => mHB sc e a z
  | .and2 a b, .BoolOp .And (y :: z :: r) p => mHB sc e a y && (match r with | [] => mHB sc e b z | _ => mHB sc e b (.BoolOp .And (z :: r) p))
  | .or2 a b, .BoolOp .Or (y :: z :: r) p => mHB sc e a y && (match r with | [] => mHB sc e b z | _ => mHB sc e b (.BoolOp .Or (z :: r) p))
  | _, _ => false
def mHC : HC → Expr → Bool
  | .bl b, .Constant (.bool k) _ _ => decide (k = b)
  | .str x, .Constant (.str k) _ _ => decide (k = x)
  | _, _ => false
def mHS (fn : Nm) (sc : Scope) (e : Str) : HS → List Stmt → Bool
  | .ifR c v l, .If t [.Return (some w) _] [] _ :: rest => mHB sc e c t && mHC v w && mHS fn sc e l rest
  | .retW f w, [.Return (some (.Call (.Name x _) [.Name n _] [] _)) _] => gl sc x && decide (n = e) && decide (fn.w f = some (x, w)) && !(x == ("__debug__" : Str))
  | .retB b, [.Return (some z) _] => mHB sc e b z
  | .retC v, [.Return (some z) _] => mHC v z
  | _, _ => false
def hsmallB : HB → Bool
  | .isc _ => true
  | .ist xs => decide (xs.length ≤ 100)
  | .not1 a => hsmallB a
  | .and2 a b => hsmallB a && hsmallB b
  | .or2 a b => hsmallB a && hsmallB b
def hssmallB : HS → Bool
  | .ifR c _ l => hsmallB c && hssmallB l
  | .retB b => hsmallB b
  | .retC _ => true
  | .retW _ _ => true
/-- try: .. except NetError as e: a suite of class tests -/
def mTry (fn : Nm) (N : List Str) (sc : Scope) (i : Nat) (js : List Nat) (h : HS) (r : List Stmt → Bool) : Stmt → Bool
  | .Try body [.ExceptHandler (some (.Name x _)) (some e) (b₀ :: suite) _] [] [] _ =>
    r body && decide (x = ("NetError" : Str)) && gl sc x && decide (fn.c 0 = some x) && decide (N[i]? = some e) && decide (sc.names.lookup e = some .local) && !(e == ("__debug__" : Str)) && !(e == ("__classdict__" : Str))
      && js.all (fun j => (fn.c j).isSome && (hsnames h).all (fun y => fn.h j y)) && hssmallB h && mHS fn sc e h (b₀ :: suite)
  | _ => false
/-- raise X('..') -/
def mRai (fn : Nm) (sc : Scope) (k : Nat) : Stmt → Bool
  | .Raise (some (.Call (.Name x _) [.Constant (.str _) _ _] [] _)) none _ => gl sc x && decide (fn.c k = some x) && !(x == ("__debug__" : Str))
  | _ => false
def stName : Stmt → Str
  | .FunctionDef name .. => name
  | _ => ""
/-- def y(..): ..; return x(e, y) -/
def mDefC (fn : Nm) (N : List Str) (sc : Scope) (j : Nat) (n : Option Str) (g : Nat) (js : List Nat) (r : Expr → Bool) : List Stmt → Bool
  | [st, .Return (some (.Call (.Name x _) [e, .Name y _] [] _)) _] => gl sc x && decide (n = some x) && decide ((x == ("__debug__" : Str)) = false) && r e && fn.de g sc st && capOk fn N g js && storeOk N sc true j y && slotOk N sc j y && decide (stName st = y)
  | _ => false
mutual
def mS : MS → Stmt → Bool
  | .asg i a, x => mAsg N sc i (fun y => mE fn N a sc y) x
  | .asgT is a, x => mAsgT N sc is (fun y => mE fn N a sc y) x
  | .exp a, x => mExp (fun y => mE fn N a sc y) x
  | .app _ i a, x => mMut N sc "append" i (fun y => mE fn N a sc y) x
  | .ext i a, x => mMut N sc "extend" i (fun y => mE fn N a sc y) x
  | .rev i, x => mRev N sc i x
  | .setI i k a, x => mSetI N sc i (fun y => mE fn N k sc y) (fun y => mE fn N a sc y) x
  | .setD i k a, x => mSetI N sc i (fun y => mE fn N k sc y) (fun y => noLc y && mE fn N a sc y) x
  | .setDT i k a, x => mSetI N sc i (fun y => mE fn N k sc y) (fun y => noLc y && mE fn N a sc y) x
  | .setDN i k, x => mSetI N sc i (fun y => mE fn N k sc y) mDnew x
  | .setDD i j1 j2 a, x => mSetDD N sc i j1 j2 (fun y => noLc y && mE fn N a sc y) x
  | .aug i a, x => mAug N sc i (fun y => mE fn N a sc y) x
  | .ifs c a b, x => mIf (fun y => mE fn N c sc y) (fun y => mSs a y) (fun y => mSs b y) x
  | .whl _ c b, x => mWhl (fun y => mE fn N c sc y) (fun y => mSs b y) x
  | .for_ t one it b, x => mFor N sc t one (fun tg y => mI fn N it sc tg y) (fun y => mSs b y) x
  | .ret a, x => mRet (fun y => mE fn N a sc y) x
  | .retN, x => mKw .retN x
  | .retL f a g js, x => mRet (fun y => mCallL fn N sc (fn f) g js (fun y => mE fn N a sc y) y) x
  | .brk, x => mKw .brk x
  | .cnt, x => mKw .cnt x
  | .pas, x => mKw .pas x
  | .nev, _ => true
  | .rai k, x => mRai fn sc k x
  | .tryR b i js h, x => mTry fn N sc i js h (fun y => mSs b y) x
def mSs : MSs → List Stmt → Bool
  | .nil, xs => xs.isEmpty
  | .cons s l, xs => (match xs with | x :: xs => mS s x && mSs l xs | [] => false)
  | .defC j f a g js, xs => mDefC fn N sc j (fn f) g js (fun y => mE fn N a sc y) xs
end
end
/-! ### readings -/
section
variable (c : RC) (Ex : XK)
def rsB (HB GB : Hp) (FB : List Addr) (r : SOut) (D : Ends) : Prop := match r with
  | .nx e => ∀ σ H G F, SIM c σ H G F e → Step HB GB FB H G F → D.nx σ H
  | .bk e => ∀ σ H G F, SIM c σ H G F e → Step HB GB FB H G F → D.bk σ H
  | .ct e => ∀ σ H G F, SIM c σ H G F e → Step HB GB FB H G F → D.ct σ H
  | .rt od e => ∀ v H G Fr, Sub G H → Step HB GB FB H G Fr → RO c H G od v Fr → Fr.Nodup → (∀ x ∈ Fr, G x = none) → D.rt v H
  | .exc k e => ∀ H G, Sub G H → Step HB GB FB H G [] → Ex (.ref (c.cl k)) none H
  | .bad => False
def rsX (f : Env → SOut) : TS := fun D σ H => ∃ G F e, SIM c σ H G F e ∧ rsB c Ex H G F (f e) D
end
section
variable {c : RC} {Ex : XK} {X : Cx} {M : Mo} {N : List Str} {sc : Scope} {lvl : Nat} {C : CallS}
theorem rs_go {f : Env → SOut} {σ : L2.St} {H HB GB G : Hp} {F FB : List Addr} {e : Env} {D : Ends} (s : SIM c σ H G F e) (st : Step HB GB FB H G F) (h : rsB c Ex HB GB FB (f e) D) : rsX c Ex f D σ H := by
  refine ⟨G, F, e, s, ?_⟩
  revert h
  cases f e with
  | nx e1 => exact fun r σ1 H1 G1 F1 s1 st1 => r σ1 H1 G1 F1 s1 (st.trans st1)
  | bk e1 => exact fun r σ1 H1 G1 F1 s1 st1 => r σ1 H1 G1 F1 s1 (st.trans st1)
  | ct e1 => exact fun r σ1 H1 G1 F1 s1 st1 => r σ1 H1 G1 F1 s1 (st.trans st1)
  | rt od e1 => exact fun r v H1 G1 Fr sb st1 => r v H1 G1 Fr sb (st.trans st1)
  | exc k e1 => exact fun r H1 G1 sb st1 => r H1 G1 sb (st.trans st1)
  | bad => exact fun r => r
theorem rs_at {α β : Type} {rep1 : Rep α β} {f : Env → Out α} {g : α → Env → SOut} {σ : L2.St} {H HB GB G : Hp} {F FB : List Addr} {e : Env} {D : Ends} (s : SIM c σ H G F e) (st : Step HB GB FB H G F) (h : rsB c Ex HB GB FB (SOut.of (f e) g) D) :
    rdX c Ex rep1 f σ H (fun b H1 => ∃ G1 F1 Fr1 e1 a, SIM c σ H1 G1 F1 e1 ∧ Step H G F H1 G1 (F1 ++ Fr1) ∧ Step HB GB FB H1 G1 (F1 ++ Fr1) ∧ rep1 σ H1 G1 a b Fr1 ∧ (F1 ++ Fr1).Nodup ∧ (∀ x ∈ Fr1, G1 x = none) ∧ rsB c Ex HB GB FB (g a e1) D) := by
  refine ⟨G, F, e, s, ?_⟩
  revert h
  cases f e with
  | ok a e1 => exact fun r b H1 G1 F1 Fr1 s1 st1 rp nd fr => ⟨G1, F1, Fr1, e1, a, s1, st1, st.trans st1, rp, nd, fr, r⟩
  | exc k e1 => exact fun r H1 G1 F1 s1 st1 => r H1 G1 s1.sub ((st.trans st1).less fun _ z => by cases z)
  | bad => exact fun r => r
/-- a test, then a statement -/
theorem rs_tst {f : Env → Out OD} {g : Bool → Env → SOut} {σ : L2.St} {H HB GB G : Hp} {F FB : List Addr} {e : Env} {D : Ends} (s : SIM c σ H G F e) (st : Step HB GB FB H G F)
    (h : rsB c Ex HB GB FB (SOut.of (f e) fun od e1 => match truD od.toD with | some k => g k e1 | none => .bad) D) :
    rdX c Ex repB (tst f) σ H (fun k H1 => ∃ G1 F1 e1, SIM c σ H1 G1 F1 e1 ∧ Step HB GB FB H1 G1 F1 ∧ rsB c Ex HB GB FB (g k e1) D) := by
  refine ⟨G, F, e, s, ?_⟩
  revert h
  simp only [tst]
  cases f e with
  | ok od e1 =>
    intro r
    simp only [SOut.of, Out.bind] at r ⊢
    cases hk : truD od.toD with
    | none => rw [hk] at r; exact r.elim
    | some k =>
      rw [hk] at r
      intro b H1 G1 F1 Fr1 s1 st1 rp nd fr
      obtain ⟨rfl, rfl⟩ := repB_t rp
      simp only [List.append_nil] at st1
      exact ⟨G1, F1, e1, s1, st.trans st1, r⟩
  | exc k e1 => exact fun r H1 G1 F1 s1 st1 => r H1 G1 s1.sub ((st.trans st1).less fun _ z => by cases z)
  | bad => exact fun r => r
theorem noSw {v : Expr} (h : noLc v = true) {fnm : Nm} {a : ME} (hm : mE fnm N a sc v = true) {t : Option Expr} {l : Nat} {env : PySem.Env} : swapsWith v t l env = pure false := by
  cases v with
  | ListComp => cases h
  | SetComp => cases a <;> simp [mE, mName, mConst, m1, m2, mSlc, mMth, mCh, mBool, mNot, mIfe, mTup, mLst, mCall, mCallv, mSkey, mComp, mGlb, mDnew, mGet3, mPop, mUpper] at hm
  | DictComp => cases a <;> simp [mE, mName, mConst, m1, m2, mSlc, mMth, mCh, mBool, mNot, mIfe, mTup, mLst, mCall, mCallv, mSkey, mComp, mGlb, mDnew, mGet3, mPop, mUpper] at hm
  | _ => rfl
/-- name = value, whatever the value -/
theorem set_ok {i : Nat} {a : ME} {D : Ends} {σ : L2.St} {H : Hp} (h : rsX c Ex (ex C (.asg i a)) D σ H) : tAsg (rdX c Ex (repO c) (ev C a)) (gName i) D σ H := by
  obtain ⟨G, F, e, s, h⟩ := h
  simp only [ex] at h
  refine (rs_at (rep1 := repO c) s Step.refl h).imp fun v H1 q => ?_
  obtain ⟨G1, F1, Fr1, e1, od, s1, _, st1, rp1, nd1, fr1, q⟩ := q
  split at q
  · rename_i hi
    obtain ⟨F', s', mem⟩ := s1.store hi rp1 nd1 fr1
    exact q _ _ _ _ s' (st1.less mem)
  · exact q.elim
theorem ps_setT (K : Ctx M c Ex N sc true lvl X) {fn : Nm} {np : Nat → Nat} (W : CallOk M c C lvl fn np) {i : Nat} {a : ME} {x : Stmt} (h : mAsg N sc i (fun y => mE fn N a sc y) x = true) : PS X x (rsX c Ex (ex C (.asg i a))) := by
  unfold mAsg at h
  split at h
  · rename_i y py v pos
    simp only [Bool.and_eq_true] at h
    obtain ⟨h1, h2⟩ := h
    have g := sound_E W a K h2
    obtain ⟨n1, n2, n3⟩ := store_vis K h1
    have hN : X.N.Nodup := by rw [K.n]; exact K.nd
    by_cases hl : noLc v = true
    · exact PS.weak (ps_set hN n1 n2 g.pe (noSw hl h2) n3) fun D σ H q => set_ok q
    · have hcomp : ∃ sl own t one it cond elt, a = .comp sl own t one it cond elt := by
        cases v <;> first | exact absurd rfl hl | skip
        cases a <;> first | exact ⟨_, _, _, _, _, _, _, rfl⟩ | simp [mE, mName, mConst, m1, m2, mSlc, mMth, mCh, mBool, mNot, mIfe, mTup, mLst, mCall, mCallv, mSkey, mGlb, mDnew, mGet3, mPop, mUpper] at h2
      obtain ⟨sl, own, t, one, it, cond, elt, rfl⟩ := hcomp
      obtain ⟨z, tg, iter, ifs, scope, pos2, own', rfl, L⟩ := lc_facts K (fun {_ _ _ _} K {_ _} h => sound_I W it K h) (fun {_ _ _ _} K {_} h => sound_O W cond K h) (fun {_ _ _ _} K {_} h => (sound_E W elt K h).pe) h2
      have hsw : swapsWith (.ListComp z [⟨tg, iter, ifs, 0⟩] scope pos2) (some (.Name y py)) pos.line X.env = pure (X.env.blockKind == .function && X.env.kindOf y == some .local && py.line == pos2.line
        && !(scope.names.any fun (n, k) => n == y && (k == .local || k == .cell))) := rfl
      cases hb : (X.env.blockKind == .function && X.env.kindOf y == some .local && py.line == pos2.line
        && !(scope.names.any fun (n, k) => n == y && (k == .local || k == .cell))) with
      | true =>
        rw [hb] at hsw
        have hy : X.env.scope.names.lookup y = some .local := by
          simp only [Bool.and_eq_true] at hb
          have := hb.1.1.2
          exact eq_of_beq this
        exact PS.weak (ps_setLc K.calm hN n1 hy hsw L.hi L.ok L.hg L.ht L.he L.hs) fun D σ H q => L.w _ _ _ (set_ok q)
      | false =>
        rw [hb] at hsw
        exact PS.weak (ps_set hN n1 n2 (L.pe K.calm) hsw n3) fun D σ H q => set_ok q
  · cases h
end
end MW
namespace MW
open L2 PyProof.Rows PySem.Spec PySem
open PySem.AutoSeq1 in
set_option maxHeartbeats 4000000 in
theorem extend_tup (l : Addr) (items : Array Value) (n : Nat) (b : Addr) (items2 : Array Value) (n2 : Nat) (dd : Option Addr) (sl : Array (Option Value)) (hs0 : ¬(!items.isEmpty && Builtin.List.listTooLong (items.size + items2.size)) = true) (hs1 : items.size ≤ sizeLine) (hs2 : items.size + items2.size ≤ sizeLine + 1) :
    Meets (Builtin.«list.extend» ⟨[.ref l, .ref b], []⟩) (fun _ R s => s.heap.get? l = some { cls := .type "list", dict := none, data := .seq items n, slots := #[] } ∧ s.heap.get? b = some { cls := .type "tuple", dict := dd, data := .seq items2 n2, slots := sl } ∧ R (.ok (.ret Value.none)) { s with heap := s.heap.update l (Obj.mapSeq fun x => x ++ items2), toks := s.toks }) :=
  .of_wp fun prog w A R s h => by
    obtain ⟨hp, g, d, tk, os⟩ := s
    obtain ⟨hl, hb, h⟩ := h
    have f1 := idx_int
    have f2 := AutoSeq1.sub_tuple_tuple
    have f3 := AutoSeq1.sub_list_list
    have f4 := AutoSeq1.sub_tuple_list
    have f5 := AutoSeq1.sub_list_tuple
    have hz' : (items ++ items2).size ≤ sizeLine + 1 := by rw [Array.size_append]; exact hs2
    wp_walk using (wpAny_updateSeq hl rfl (hz := hs1) (_hz' := hz')), wpAny_loadPart' hl, wpAny_loadPart' hb
    exact ⟨_, rfl, h⟩
section
variable {c : RC} {Ex : XK} {X : Cx} {M : Mo} {N : List Str} {sc : Scope} {lvl : Nat} {C : CallS} {fn : Nm} {np : Nat → Nat}
/-- x.extend(ys): a list, or a tuple -/
def rExt (K : PySem.W.Frag) : V → List V → Hp → VK → Prop := fun x vs H Q => ∃ l b xs zs, x = .ref l ∧ vs = [.ref b] ∧ H l = some (.lst xs) ∧ (Rd H b (.lst zs) ∨ SqT K H b zs) ∧ xs.length + zs.length ≤ sizeLine ∧ Q .non (upd H l (.lst (xs ++ zs)))
theorem mt_ext : MtM X "list.extend" (rExt X.K) := by
  intro pins s σ H x vs v us Q I rx rv h
  obtain ⟨l, b, xs, zs, rfl, rfl, hH, hB, hz, q⟩ := h
  cases rx
  obtain ⟨u, rfl, ru⟩ := rv.one
  cases ru
  obtain ⟨z, its, n, r, hl, e⟩ := I.lstM hH
  rcases hB with hB | hB
  · obtain ⟨z2, its2, n2, r2, e2⟩ := hB.ok I.hok
    have hl2 := r2.length
    have hsz : its.toArray.size + its2.toArray.size ≤ sizeLine := by rw [List.size_toArray, List.size_toArray]; omega
    have hlong : ¬ (!its.toArray.isEmpty && Builtin.List.listTooLong (its.toArray.size + its2.toArray.size)) = true := by
      rw [notLongL hsz, Bool.and_false]
      exact Bool.false_ne_true
    refine call_meets F.slot_list_extend ⟨_, e, rfl⟩ F.entry_list_extend (F.args_list_extend_2 _ _)
      (AutoSeq1.list_extend_list_list_0 l its.toArray n b its2.toArray n2 hlong (by rw [List.size_toArray]; omega) (by omega)) ⟨e, e2, ?_⟩
    refine ⟨.non, _, I.lset (its' := its ++ its2) hH e (by simp) (r.append r2) ?_, rfl, q⟩
    rw [List.length_append]
    omega
  · obtain ⟨its2, r2, ⟨o2, e2, hc2, n2, hd2⟩, z2⟩ := I.tuple hB
    have hl2 := r2.length
    obtain ⟨cls, dd, data, sl⟩ := o2
    have hc3 : cls = .type "tuple" := hc2
    have hd3 : data = .seq its2.toArray n2 := hd2
    subst hc3; subst hd3
    have hsz : its.toArray.size + its2.toArray.size ≤ sizeLine := by rw [List.size_toArray, List.size_toArray]; omega
    have hlong : ¬ (!its.toArray.isEmpty && Builtin.List.listTooLong (its.toArray.size + its2.toArray.size)) = true := by
      rw [notLongL hsz, Bool.and_false]
      exact Bool.false_ne_true
    refine call_meets F.slot_list_extend ⟨_, e, rfl⟩ F.entry_list_extend (F.args_list_extend_2 _ _)
      (extend_tup l its.toArray n b its2.toArray n2 dd sl hlong (by rw [List.size_toArray]; omega) (by omega)) ⟨e, e2, ?_⟩
    refine ⟨.non, _, I.lset (its' := its ++ its2) hH e (by simp) (r.append r2) ?_, rfl, q⟩
    rw [List.length_append]
    omega
theorem isOl_some {o : Option (Option OD)} (h : isOl o = true) : ∃ l, o = some (some (.ol l)) := by
  unfold isOl at h
  split at h
  · exact ⟨_, rfl⟩
  · cases h
theorem mut_at {s1 : Str} {i : Nat} {r : Expr → Bool} {x : Stmt} (h : mMut N sc s1 i r x = true) : ∃ y py apos v cpos pos, x = .Expr (.Call (.Attribute (.Name y py) s1 apos) [v] [] cpos) pos ∧ slotOk N sc i y = true ∧ (apos.endLine == cpos.line) = true ∧ r v = true := by
  unfold mMut at h
  split at h
  · simp only [Bool.and_eq_true, decide_eq_true_eq] at h
    obtain ⟨⟨⟨h1, rfl⟩, h3⟩, h4⟩ := h
    exact ⟨_, _, _, _, _, _, rfl, h1, h3, h4⟩
  · cases h
theorem ps_app (K : Ctx M c Ex N sc true lvl X) (W : CallOk M c C lvl fn np) {sl : Bool} {i : Nat} {a : ME} {x : Stmt} (h : mMut N sc "append" i (fun y => mE fn N a sc y) x = true) : PS X x (rsX c Ex (ex C (.app sl i a))) := by
  obtain ⟨y, py, apos, v, cpos, pos, rfl, h1, h2, h3⟩ := mut_at h
  have g := sound_E (Ex := Ex) W a K h3
  refine PS.weak (ps_expr (pe_bm PySem.F.plainAttrs_list PySem.F.slot_list_append PySem.F.type_list_append mt_append (pe_name K h1) (pa_cons g.pe pa_nil (hs := star_cons g.ns)) (hbase := rfl) (hfew := by rw [star_cons g.ns]; rfl) (hline := h2) (hs := star_cons g.ns) (hplain := rfl)) (hs := rfl)) fun D σ H q => ?_
  obtain ⟨G, F, e, s, q⟩ := q
  simp only [ex] at q
  split at q
  · rename_i ho
    obtain ⟨l, ho⟩ := isOl_some ho
    obtain ⟨w, Fa, Fi, Fb, e1, _, ro, _⟩ := s.ren.get ho
    simp only [RO] at ro
    obtain ⟨p, xs, F1, rfl, hp, rl, rfl⟩ := ro
    refine ⟨_, e1, Or.inl ⟨rfl, xs, SqL.of hp⟩, rdE_M (m := sl) ((rs_at (rep1 := repM c sl) s Step.refl q).imp fun z H1 q => ?_)⟩
    obtain ⟨G1, F2, Fr1, e2, od, s1, g1, st1, rp1, nd1, fr1, q⟩ := q
    split at q
    · rename_i l2 h2
      split at q
      · rename_i hz
        obtain ⟨p2, xs2, F3, e3, hp2, rl2, n1, n2, nf, put⟩ := s1.mutate st1 nd1 fr1 h2
        rw [e1] at e3
        cases e3
        have rp2 : RO c H1 G1 (asArg sl od) z Fr1 := rp1
        refine ⟨p, xs2, z, rfl, rfl, hp2, by rw [rl2.len]; exact hz, ?_⟩
        obtain ⟨F4, s4, st4⟩ := put (l2 ++ [asArg sl od]) (xs2 ++ [z]) (F3 ++ Fr1) (ROL.snoc (RO.mono (Gle.refl _) (agree_upd n2) rp2) (ROL.mono (Gle.refl _) (agree_upd n1) rl2)) (fun a h => h) nf
        exact q _ _ _ _ s4 st4
      · exact q.elim
    · exact q.elim
  · exact q.elim
theorem ROL.append {H G : Hp} : ∀ {l l' : List OD} {xs xs' : List V} {F F' : List Addr}, ROL c H G l xs F → ROL c H G l' xs' F' → ROL c H G (l ++ l') (xs ++ xs') (F ++ F')
  | [], l', xs, xs', F, F', h, h' => by
    simp only [ROL] at h
    obtain ⟨rfl, rfl⟩ := h
    exact h'
  | d :: l, l', xs, xs', F, F', h, h' => by
    simp only [ROL] at h
    obtain ⟨x, r, F1, F3, rfl, rfl, p, q⟩ := h
    simp only [List.cons_append, ROL]
    exact ⟨x, r ++ xs', F1, F3 ++ F', rfl, by simp, p, ROL.append q h'⟩
theorem ps_extT (K : Ctx M c Ex N sc true lvl X) (W : CallOk M c C lvl fn np) {i : Nat} {a : ME} {x : Stmt} (h : mMut N sc "extend" i (fun y => mE fn N a sc y) x = true) : PS X x (rsX c Ex (ex C (.ext i a))) := by
  obtain ⟨y, py, apos, v, cpos, pos, rfl, h1, h2, h3⟩ := mut_at h
  have g := sound_E (Ex := Ex) W a K h3
  refine PS.weak (ps_expr (pe_bm PySem.F.plainAttrs_list PySem.F.slot_list_extend PySem.F.type_list_extend mt_ext (pe_name K h1) (pa_cons g.S pa_nil (hs := star_cons g.ns)) (hbase := rfl) (hfew := by rw [star_cons g.ns]; rfl) (hline := h2) (hs := star_cons g.ns) (hplain := rfl)) (hs := rfl)) fun D σ H q => ?_
  obtain ⟨G, F, e, s, q⟩ := q
  simp only [ex] at q
  split at q
  · rename_i ho
    obtain ⟨l, ho⟩ := isOl_some ho
    obtain ⟨w, Fa, Fi, Fb, e1, _, ro, _⟩ := s.ren.get ho
    simp only [RO] at ro
    obtain ⟨p, xs, F1, rfl, hp, rl, rfl⟩ := ro
    refine ⟨_, e1, Or.inl ⟨rfl, xs, SqL.of hp⟩, (rs_at (rep1 := repS c) s Step.refl q).imp fun z H1 q => ?_⟩
    obtain ⟨G1, F2, Fr1, e2, od, s1, g1, st1, ⟨rfl, rp1⟩, nd1, fr1, q⟩ := q
    have key : ∀ l2 r, e2[i]? = some (some (.ol l2)) → (∃ b zs, z = .ref b ∧ (Rd H1 b (.lst zs) ∨ SqT X.K H1 b zs) ∧ RSL c G1 r zs) → l2.length + r.length ≤ sizeLine → rsB c Ex H G F (.nx (e2.set i (some (.ol (l2 ++ r.map .s))))) D →
        rExt X.K (.ref p) [z] H1 (fun _ H3 => D.nx σ H3) := by
      intro l2 r h2 hz hl q
      obtain ⟨b, zs, rfl, hb, rz⟩ := hz
      obtain ⟨p2, xs2, F3, e3, hp2, rl2, n1, n2, nf, put⟩ := s1.mutate st1 nd1 fr1 h2
      rw [e1] at e3
      cases e3
      refine ⟨p, b, xs2, zs, rfl, rfl, hp2, hb, by rw [rl2.len, rz.len]; exact hl, ?_⟩
      obtain ⟨F4, s4, st4⟩ := put (l2 ++ r.map .s) (xs2 ++ zs) (F3 ++ []) (ROL.append (ROL.mono (Gle.refl _) (agree_upd n1) rl2) (ROL_s.mpr ⟨rz, rfl⟩)) (fun a h => h) nf
      exact q _ _ _ _ s4 st4
    split at q
    · rename_i l2 r h2 hr
      split at q
      · rename_i hz
        rw [hr] at rp1
        simp only [RS] at rp1
        obtain ⟨b, zs, rfl, sq, rz⟩ := rp1
        exact key l2 r h2 ⟨b, zs, rfl, .inl (s1.sub.rd sq), rz⟩ hz q
      · exact q.elim
    · rename_i l2 r h2 hr
      split at q
      · rename_i hz
        rw [hr] at rp1
        simp only [RS] at rp1
        obtain ⟨b, zs, rfl, sq, rz⟩ := rp1
        exact key l2 r h2 ⟨b, zs, rfl, .inr (by rw [K.hK]; exact s1.sub.tup sq), rz⟩ hz q
      · exact q.elim
    · exact q.elim
  · exact q.elim
theorem ps_asgT' (K : Ctx M c Ex N sc true lvl X) (W : CallOk M c C lvl fn np) {is : List Nat} {a : ME} {x : Stmt} (h : mAsgT N sc is (fun y => mE fn N a sc y) x = true) : PS X x (rsX c Ex (ex C (.asgT is a))) := by
  unfold mAsgT at h
  split at h
  · rename_i es k tpos v pos
    simp only [Bool.and_eq_true] at h
    obtain ⟨⟨h1, h2⟩, h3⟩ := h
    have g := sound_E (Ex := Ex) W a K h3
    have hm : mT N sc true is false (.Tuple es k tpos) = true := h1
    have hsw : swapsWithSole [.Tuple es k tpos] v pos.line X.env = pure false := by
      show swapsWith v (some (.Tuple es k tpos)) pos.line X.env = pure false
      by_cases hl : noLc v = true
      · exact noSw hl h3
      · cases v <;> first | exact absurd rfl hl | rfl
    have hst : swappedStores [.Tuple es k tpos] v X.env = pure none := by
      cases v with
      | Tuple => cases h2
      | List => cases h2
      | _ => rfl
    refine PS.weak (ps_asg g.S (pgT K hm) hsw hst rfl) fun D σ H q => ?_
    obtain ⟨G, F, e, s, q⟩ := q
    simp only [ex] at q
    refine (rs_at (rep1 := repS c) s Step.refl q).imp fun z H1 q => ?_
    obtain ⟨G1, F2, Fr1, e2, od, s1, g1, st1, ⟨rfl, rp1⟩, nd1, fr1, q⟩ := q
    simp only [List.append_nil] at st1
    split at q
    · rename_i e3 hs
      exact gT_ok rp1 s1 hs fun σ' F' s' mem off => q _ _ _ _ s' (st1.less mem)
    · exact q.elim
  · cases h
theorem ps_expT (K : Ctx M c Ex N sc true lvl X) (W : CallOk M c C lvl fn np) {a : ME} {x : Stmt} (h : mExp (fun y => mE fn N a sc y) x = true) : PS X x (rsX c Ex (ex C (.exp a))) := by
  unfold mExp at h
  split at h
  · simp only [Bool.and_eq_true] at h
    have g := sound_E (Ex := Ex) W a K h.2
    refine PS.weak (ps_expr g.S (noSw h.1 h.2)) fun D σ H q => ?_
    obtain ⟨G, F, e, s, q⟩ := q
    simp only [ex] at q
    refine (rs_at (rep1 := repS c) s Step.refl q).imp fun z H1 q => ?_
    obtain ⟨G1, F2, Fr1, e2, od, s1, g1, st1, ⟨rfl, rp1⟩, nd1, fr1, q⟩ := q
    simp only [List.append_nil] at st1
    exact q _ _ _ _ s1 st1
  · cases h
theorem ps_retT (K : Ctx M c Ex N sc true lvl X) (W : CallOk M c C lvl fn np) {a : ME} {x : Stmt} (h : mRet (fun y => mE fn N a sc y) x = true) : PS X x (rsX c Ex (ex C (.ret a))) := by
  unfold mRet at h
  split at h
  · have g := sound_E (Ex := Ex) W a K h
    refine PS.weak (ps_ret g.pe) fun D σ H q => ?_
    obtain ⟨G, F, e, s, q⟩ := q
    simp only [ex] at q
    refine (rs_at (rep1 := repO c) s Step.refl q).imp fun z H1 q => ?_
    obtain ⟨G1, F2, Fr1, e2, od, s1, g1, st1, rp1, nd1, fr1, q⟩ := q
    exact q z H1 G1 Fr1 s1.sub (st1.less fun a h => List.mem_append_right _ h) rp1 (List.nodup_append.mp nd1).2.1 fr1
  · cases h
theorem ps_ifT (K : Ctx M c Ex N sc true lvl X) (W : CallOk M c C lvl fn np) {d : ME} {a b : MSs} {ra rb : List Stmt → Bool} (ha : ∀ xs, ra xs = true → PSs X xs (rsX c Ex (exs C a))) (hb : ∀ xs, rb xs = true → PSs X xs (rsX c Ex (exs C b))) {x : Stmt}
    (h : mIf (fun y => mE fn N d sc y) ra rb x = true) : PS X x (rsX c Ex (ex C (.ifs d a b))) := by
  unfold mIf at h
  split at h
  · simp only [Bool.and_eq_true] at h
    obtain ⟨⟨h1, h2⟩, h3⟩ := h
    have g := sound_E (Ex := Ex) W d K h1
    refine PS.weak (ps_if g.pt (ha _ h2) (hb _ h3)) fun D σ H q => ?_
    obtain ⟨G, F, e, s, q⟩ := q
    simp only [ex] at q
    have q2 : rsB c Ex H G F (SOut.of (ev C d e) fun od e1 => match truD od.toD with | some k => (fun k e => if k = true then exs C a e else exs C b e) k e1 | none => .bad) D := by
      refine Eq.mp ?_ q
      congr 2
      funext od e1
      cases truD od.toD with
      | none => rfl
      | some k => cases k <;> rfl
    refine (rs_tst s Step.refl q2).imp fun k H1 q => ?_
    obtain ⟨G1, F1, e1, s1, st1, q⟩ := q
    cases k with
    | true => exact iteT (rs_go s1 st1 q)
    | false => exact iteF (rs_go s1 st1 q)
  · cases h
theorem ROL.rev {H G : Hp} : ∀ {l : List OD} {xs : List V} {F : List Addr}, ROL c H G l xs F → ∃ F', F'.Perm F ∧ ROL c H G l.reverse xs.reverse F'
  | [], xs, F, h => by
    simp only [ROL] at h
    obtain ⟨rfl, rfl⟩ := h
    exact ⟨[], List.Perm.refl _, by simp [ROL]⟩
  | d :: l, xs, F, h => by
    simp only [ROL] at h
    obtain ⟨x, r, F1, F2, rfl, rfl, p, q⟩ := h
    obtain ⟨F3, pe, z⟩ := ROL.rev q
    refine ⟨F3 ++ F1, (pe.append_right F1).trans List.perm_append_comm, ?_⟩
    simp only [List.reverse_cons]
    exact ROL.snoc p z
theorem ps_revT (K : Ctx M c Ex N sc true lvl X) {i : Nat} {x : Stmt} (h : mRev N sc i x = true) : PS X x (rsX c Ex (ex C (.rev i))) := by
  unfold mRev at h
  split at h
  · rename_i y py m' apos cpos pos
    simp only [Bool.and_eq_true, decide_eq_true_eq] at h
    obtain ⟨⟨h1, rfl⟩, h3⟩ := h
    refine PS.weak (ps_expr (pe_bm0 PySem.F.plainAttrs_list PySem.F.slot_list_reverse PySem.F.type_list_reverse mt_reverse (pe_name K h1) (hbase := rfl) (hline := h3)) (hs := rfl)) fun D σ H q => ?_
    obtain ⟨G, F, e, s, q⟩ := q
    simp only [ex] at q
    split at q
    · rename_i l ho
      obtain ⟨p, xs, F1, e1, hp, rl, n1, n2, nf, put⟩ := s.mutate (Fr := []) (FB := F) (HB := H) (GB := G) (by rw [List.append_nil]; exact Step.refl) (by rw [List.append_nil]; exact s.nd) (fun _ z => by cases z) ho
      refine ⟨_, e1, Or.inl ⟨rfl, xs, SqL.of hp⟩, p, xs, rfl, rfl, hp, ?_⟩
      obtain ⟨F2, pe, rl2⟩ := (ROL.mono (Gle.refl _) (agree_upd (o := .lst xs.reverse) n1) rl).rev
      rw [List.append_nil] at nf
      obtain ⟨F3, s4, st4⟩ := put _ _ F2 rl2 (fun a ha => by rw [List.append_nil]; exact pe.mem_iff.mp ha) (pe.nodup_iff.mpr nf)
      exact q _ _ _ _ s4 st4
    · exact q.elim
  · cases h
end
end MW
namespace MW
open L2 PyProof.Rows PySem.Spec PySem
section
variable {c : RC} {Ex : XK} {X : Cx} {M : Mo} {N : List Str} {sc : Scope} {lvl : Nat} {C : CallS} {fn : Nm} {np : Nat → Nat}
/-- a node q of what a slot owns is changed where it stands; Fr: what is put in -/
theorem SIM.mutQ {σ : L2.St} {H HB GB G : Hp} {F FB Fr : List Addr} {e : Env} {i : Nat} {od : OD} (s : SIM c σ H G F e) (st : Step HB GB FB H G (F ++ Fr)) (nd : (F ++ Fr).Nodup) (fr : ∀ x ∈ Fr, G x = none) (h : e[i]? = some (some od)) :
    ∃ v Fi, σ[i]? = some (some v) ∧ RO c H G od v Fi ∧ (Fi ++ Fr).Nodup ∧
      ∀ q o' od' Fi', q ∈ Fi → RO c (upd H q o') G od' v Fi' → (∀ a, a ∈ Fi' → a ∈ Fi ++ Fr) → Fi'.Nodup → ∃ F2, SIM c σ (upd H q o') G F2 (e.set i (some od')) ∧ Step HB GB FB (upd H q o') G F2 := by
  obtain ⟨v, Fa, Fi, Fb, e1, rfl, ro, put, _⟩ := s.ren.get h
  have nd0 := nd
  rw [List.nodup_append] at nd
  obtain ⟨n1, n2, n3⟩ := nd
  rw [List.nodup_append] at n1
  obtain ⟨a1, a2, a3⟩ := n1
  rw [List.nodup_append] at a2
  obtain ⟨b1, b2, b3⟩ := a2
  have nf : (Fi ++ Fr).Nodup := List.nodup_append.mpr ⟨b1, n2, fun x hx y hy => n3 x (by simp [hx]) y hy⟩
  refine ⟨v, Fi, e1, ro, nf, fun q o' od' Fi' hq ro' mem nd' => ?_⟩
  have nqa : q ∉ Fa := fun z => a3 q z q (by simp [hq]) rfl
  have nqb : q ∉ Fb := fun z => b3 q hq q z rfl
  have ag : AgreeOn (Fa ++ Fb) H (upd H q o') := agree_upd fun z => (List.mem_append.mp z).elim nqa nqb
  have ren := put (upd H q o') G od' v Fi' (Gle.refl _) ag ro'
  rw [set_same e1] at ren
  have gq : G q = none := s.gf q (by simp [hq])
  have memFF : ∀ a, a ∈ Fa ++ (Fi' ++ Fb) → a ∈ (Fa ++ (Fi ++ Fb)) ++ Fr := fun a ha => by
    simp only [List.mem_append] at ha ⊢
    rcases ha with h | h | h
    · simp [h]
    · rcases List.mem_append.mp (mem a h) with h | h <;> simp [h]
    · simp [h]
  have off : ∀ a ∈ Fi', a ∉ Fa ∧ a ∉ Fb := fun a ha => by
    rcases List.mem_append.mp (mem a ha) with h | h
    · exact ⟨fun z => a3 a z a (by simp [h]) rfl, fun z => b3 a h a z rfl⟩
    · exact ⟨fun z => n3 a (by simp [z]) a h rfl, fun z => n3 a (by simp [z]) a h rfl⟩
  refine ⟨Fa ++ (Fi' ++ Fb), ⟨s.sub.upd gq (fun u hu => by obtain ⟨o2, h2, h3⟩ := RO.seqs ro q hq; rw [h2] at hu; cases hu; exact h3), ren, ?_, fun a ha => ?_⟩, (st.rewr (by simp [hq])).less memFF⟩
  · refine List.nodup_append.mpr ⟨a1, List.nodup_append.mpr ⟨nd', b2, fun x hx y hy e => (off x hx).2 (e ▸ hy)⟩, fun x hx y hy e => ?_⟩
    subst e
    rcases List.mem_append.mp hy with hy | hy
    · exact (off x hy).1 hx
    · exact a3 x hx x (by simp [hy]) rfl
  · rcases List.mem_append.mp (memFF a ha) with h | h
    · exact s.gf a h
    · exact fr a h
theorem isOdk_some {o : Option (Option OD)} (h : isOdk o = true) : ∃ l, o = some (some (.odk l)) := by
  unfold isOdk at h
  split at h
  · exact ⟨_, rfl⟩
  · cases h
theorem ROK.len {H G : Hp} : ∀ {l : List (Key × OD)} {xs : List (Key × V)} {F : List Addr}, ROK c H G l xs F → xs.length = l.length
  | [], xs, F, h => by simp only [ROK] at h; rw [h.1]; rfl
  | (k, d) :: l, xs, F, h => by
    simp only [ROK] at h
    obtain ⟨x, r, F1, F2, rfl, rfl, p, q⟩ := h
    simp [ROK.len q]
theorem ROK.any {H G : Hp} (k : Key) : ∀ {l : List (Key × OD)} {xs : List (Key × V)} {F : List Addr}, ROK c H G l xs F → (xs.any fun p => decide (p.1 = k)) = l.any fun p => decide (p.1 = k)
  | [], xs, F, h => by simp only [ROK] at h; rw [h.1]; rfl
  | (j, d) :: l, xs, F, h => by
    simp only [ROK] at h
    obtain ⟨x, r, F1, F2, rfl, rfl, p, q⟩ := h
    simp [ROK.any k q]
theorem ROK.snoc {H G : Hp} {k : Key} {od : OD} {v : V} {Fv : List Addr} (h1 : RO c H G od v Fv) : ∀ {l : List (Key × OD)} {xs : List (Key × V)} {F : List Addr}, ROK c H G l xs F → ROK c H G (l ++ [(k, od)]) (xs ++ [(k, v)]) (F ++ Fv)
  | [], xs, F, h => by
    simp only [ROK] at h
    obtain ⟨rfl, rfl⟩ := h
    simp only [List.nil_append, ROK]
    exact ⟨v, [], Fv, [], rfl, by simp, h1, rfl, rfl⟩
  | (j, d) :: l, xs, F, h => by
    simp only [ROK] at h
    obtain ⟨x, r, F1, F2, rfl, rfl, p, q⟩ := h
    simp only [List.cons_append, ROK]
    exact ⟨x, _, F1, F2 ++ Fv, rfl, by simp, p, ROK.snoc h1 q⟩
theorem ROK.mapS {H G : Hp} {k : Key} {d : D} {v : V} (h1 : RS c G d v) : ∀ {l : List (Key × OD)} {xs : List (Key × V)} {F : List Addr}, ROK c H G l xs F →
    ∃ F', F'.Sublist F ∧ ROK c H G (l.map fun p => if p.1 = k then (p.1, .s d) else p) (xs.map fun p => if p.1 = k then (p.1, v) else p) F'
  | [], xs, F, h => by
    simp only [ROK] at h
    obtain ⟨rfl, rfl⟩ := h
    exact ⟨[], List.Sublist.refl _, by simp [ROK]⟩
  | (j, o) :: l, xs, F, h => by
    simp only [ROK] at h
    obtain ⟨x, r, F1, F2, rfl, rfl, p, q⟩ := h
    obtain ⟨F3, m, z⟩ := ROK.mapS h1 q
    by_cases e : j = k
    · refine ⟨F3, m.trans (List.sublist_append_right _ _), ?_⟩
      simp only [List.map_cons, if_pos e, ROK]
      exact ⟨v, _, [], F3, rfl, rfl, by simp only [RO]; exact ⟨h1, trivial⟩, z⟩
    · refine ⟨F1 ++ F3, List.Sublist.append (List.Sublist.refl _) m, ?_⟩
      simp only [List.map_cons, if_neg e, ROK]
      exact ⟨x, _, F1, F3, rfl, rfl, p, z⟩
theorem ROK.putS {H G : Hp} {k : Key} {d : D} {v : V} (h1 : RS c G d v) {l : List (Key × OD)} {xs : List (Key × V)} {F : List Addr} (h : ROK c H G l xs F) : ∃ F', F'.Sublist F ∧ ROK c H G (putD l k (.s d)) (putK xs k v) F' := by
  unfold putD putK
  rw [h.any k]
  split
  · exact ROK.mapS h1 h
  · exact ⟨F ++ [], by simp, ROK.snoc (by simp only [RO]; exact ⟨h1, trivial⟩) h⟩
theorem ROT.len {H G : Hp} : ∀ {l : List (List Key × OD)} {xs : List (List Key × V)} {F : List Addr}, ROT c H G l xs F → xs.length = l.length
  | [], xs, F, h => by simp only [ROT] at h; rw [h.1]; rfl
  | (k, d) :: l, xs, F, h => by
    simp only [ROT] at h
    obtain ⟨x, r, F1, F2, rfl, rfl, p, q⟩ := h
    simp [ROT.len q]
theorem ROT.any {H G : Hp} (k : List Key) : ∀ {l : List (List Key × OD)} {xs : List (List Key × V)} {F : List Addr}, ROT c H G l xs F → (xs.any fun p => decide (p.1 = k)) = l.any fun p => decide (p.1 = k)
  | [], xs, F, h => by simp only [ROT] at h; rw [h.1]; rfl
  | (j, d) :: l, xs, F, h => by
    simp only [ROT] at h
    obtain ⟨x, r, F1, F2, rfl, rfl, p, q⟩ := h
    simp [ROT.any k q]
theorem ROT.snoc {H G : Hp} {k : List Key} {od : OD} {v : V} {Fv : List Addr} (h1 : RO c H G od v Fv) : ∀ {l : List (List Key × OD)} {xs : List (List Key × V)} {F : List Addr}, ROT c H G l xs F → ROT c H G (l ++ [(k, od)]) (xs ++ [(k, v)]) (F ++ Fv)
  | [], xs, F, h => by
    simp only [ROT] at h
    obtain ⟨rfl, rfl⟩ := h
    simp only [List.nil_append, ROT]
    exact ⟨v, [], Fv, [], rfl, by simp, h1, rfl, rfl⟩
  | (j, d) :: l, xs, F, h => by
    simp only [ROT] at h
    obtain ⟨x, r, F1, F2, rfl, rfl, p, q⟩ := h
    simp only [List.cons_append, ROT]
    exact ⟨x, _, F1, F2 ++ Fv, rfl, by simp, p, ROT.snoc h1 q⟩
theorem ROT.mapS {H G : Hp} {k : List Key} {d : D} {v : V} (h1 : RS c G d v) : ∀ {l : List (List Key × OD)} {xs : List (List Key × V)} {F : List Addr}, ROT c H G l xs F →
    ∃ F', F'.Sublist F ∧ ROT c H G (l.map fun p => if p.1 = k then (p.1, .s d) else p) (xs.map fun p => if p.1 = k then (p.1, v) else p) F'
  | [], xs, F, h => by
    simp only [ROT] at h
    obtain ⟨rfl, rfl⟩ := h
    exact ⟨[], List.Sublist.refl _, by simp [ROT]⟩
  | (j, o) :: l, xs, F, h => by
    simp only [ROT] at h
    obtain ⟨x, r, F1, F2, rfl, rfl, p, q⟩ := h
    obtain ⟨F3, m, z⟩ := ROT.mapS h1 q
    by_cases e : j = k
    · refine ⟨F3, m.trans (List.sublist_append_right _ _), ?_⟩
      simp only [List.map_cons, if_pos e, ROT]
      exact ⟨v, _, [], F3, rfl, rfl, by simp only [RO]; exact ⟨h1, trivial⟩, z⟩
    · refine ⟨F1 ++ F3, List.Sublist.append (List.Sublist.refl _) m, ?_⟩
      simp only [List.map_cons, if_neg e, ROT]
      exact ⟨x, _, F1, F3, rfl, rfl, p, z⟩
theorem ROT.putS {H G : Hp} {k : List Key} {d : D} {v : V} (h1 : RS c G d v) {l : List (List Key × OD)} {xs : List (List Key × V)} {F : List Addr} (h : ROT c H G l xs F) : ∃ F', F'.Sublist F ∧ ROT c H G (putD l k (.s d)) (putK xs k v) F' := by
  unfold putD putK
  rw [h.any k]
  split
  · exact ROT.mapS h1 h
  · exact ⟨F ++ [], by simp, ROT.snoc (by simp only [RO]; exact ⟨h1, trivial⟩) h⟩
theorem isOdt_some {o : Option (Option OD)} (h : isOdt o = true) : ∃ l, o = some (some (.odt l)) := by
  unfold isOdt at h
  split at h
  · exact ⟨_, rfl⟩
  · cases h
/-- what stands at a key, and another thing there -/
theorem ROK.at_ {H G : Hp} {k : Key} {od : OD} : ∀ {l : List (Key × OD)} {xs : List (Key × V)} {F : List Addr}, ROK c H G l xs F → valO l k = some od →
    ∃ v Fa Fi Fb, valV xs k = some v ∧ F = Fa ++ (Fi ++ Fb) ∧ RO c H G od v Fi ∧ ∀ (H' : Hp) (od' : OD) (Fi' : List Addr), AgreeOn (Fa ++ Fb) H H' → RO c H' G od' v Fi' → ROK c H' G (putO l k od') xs (Fa ++ (Fi' ++ Fb))
  | [], xs, F, h, e => by cases e
  | (j, o) :: l, xs, F, h, e => by
    simp only [ROK] at h
    obtain ⟨x, r, F1, F2, rfl, rfl, p, q⟩ := h
    by_cases z : j = k
    · subst z
      have eo : o = od := by simpa [valO] using e
      subst eo
      refine ⟨x, [], F1, F2, by simp [valV], by simp, p, fun H' od' Fi' ag ro => ?_⟩
      simp only [putO, if_true, ROK, List.nil_append]
      exact ⟨x, r, Fi', F2, rfl, rfl, ro, ROK.mono (Gle.refl _) (by simpa using ag) q⟩
    · have e2 : valO l k = some od := by
        have : valO ((j, o) :: l) k = valO l k := by simp [valO, List.find?_cons, z]
        rw [← this]; exact e
      obtain ⟨v, Fa, Fi, Fb, v1, rfl, ro1, put⟩ := ROK.at_ q e2
      refine ⟨v, F1 ++ Fa, Fi, Fb, ?_, by simp, ro1, fun H' od' Fi' ag ro => ?_⟩
      · have : valV ((j, x) :: r) k = valV r k := by simp [valV, List.find?_cons, z]
        rw [this]; exact v1
      · simp only [putO, if_neg z, ROK]
        refine ⟨x, r, F1, Fa ++ (Fi' ++ Fb), rfl, by simp, RO.mono (Gle.refl _) (fun a ha => ag a (by simp [ha])) p, put H' od' Fi' (fun a ha => ag a ?_) ro⟩
        rcases List.mem_append.mp ha with h | h <;> simp [h]
theorem swN {v : Expr} (h : noLc v = true) {fnm : Nm} {a : ME} (hm : mE fnm N a sc v = true) {t : Option Expr} {l : Nat} {env : PySem.Env} : swapsWith v t l env = pure false := noSw h hm
/-- x[k] = v, x a dict of the slot's own -/
theorem ps_setD (K : Ctx M c Ex N sc true lvl X) (W : CallOk M c C lvl fn np) {i : Nat} {k a : ME} {x : Stmt} (h : mSetI N sc i (fun y => mE fn N k sc y) (fun y => noLc y && mE fn N a sc y) x = true) : PS X x (rsX c Ex (ex C (.setD i k a))) := by
  unfold mSetI at h
  split at h
  · rename_i y py kx spos v pos
    simp only [Bool.and_eq_true] at h
    obtain ⟨⟨⟨⟨h1, h2⟩, h5⟩, h3⟩, h6, h4⟩ := h
    have gk := sound_E (Ex := Ex) W k K h3
    have g := sound_E (Ex := Ex) W a K h4
    have hu := K.hu
    refine PS.weak (ps_dput (by omega) (pe_name K h1) gk.S g.S (noSw h6 h4)) fun D σ H q => ?_
    obtain ⟨G, F, e, s, q⟩ := q
    simp only [ex] at q
    refine (rs_at (rep1 := repS c) s Step.refl q).imp fun z H1 q => ?_
    obtain ⟨G1, F1, Fr1, e1, od, s1, g1, st1, ⟨rfl, rp1⟩, nd1, fr1, q⟩ := q
    simp only [List.append_nil] at st1
    split at q
    · rename_i ho
      obtain ⟨l, ho⟩ := isOdk_some ho
      obtain ⟨w, Fa, Fi, Fb, e3, _, ro, _⟩ := s1.ren.get ho
      refine ⟨w, e3, (rs_at (rep1 := repS c) s1 st1 q).imp fun zk H2 q => ?_⟩
      obtain ⟨G2, F2, Fr2, e4, kd, s2, g2, st2, ⟨rfl, rp2⟩, nd2, fr2, q⟩ := q
      split at q
      · rename_i l2 kk hx hk
        split at q
        · rename_i hz
          obtain ⟨v2, Fi2, e5, ro2, nf, put⟩ := s2.mutQ st2 nd2 fr2 hx
          rw [e3] at e5
          cases e5
          simp only [RO] at ro2
          obtain ⟨p, kvs, F3, rfl, hp, rk, rfl⟩ := ro2
          obtain rfl := keyD_rt (rp2.top s2.sub) hk
          refine ⟨p, _, rfl, DPut.k hp (by rw [rk.len]; exact hz), ?_⟩
          have npF : p ∉ F3 := by
            have := (List.nodup_append.mp nf).1
            exact (List.nodup_cons.mp this).1
          obtain ⟨F4, m4, rk4⟩ := (ROK.mono (Gle.refl _) (agree_upd (o := .dK (putK kvs kk z)) npF) rk).putS (k := kk) (RS.mono g2.gle rp1)
          obtain ⟨F5, s5, st5⟩ := put p (.dK (putK kvs kk z)) (.odk (putD l2 kk (.s od.toD))) (p :: F4) (by simp) (by simp only [RO]; exact ⟨p, _, F4, rfl, upd_same, rk4, rfl⟩)
            (fun a ha => by
              rcases List.mem_cons.mp ha with rfl | ha
              · simp
              · simp [m4.subset ha]) (List.nodup_cons.mpr ⟨fun z => npF (m4.subset z), m4.nodup (List.nodup_cons.mp (List.nodup_append.mp nf).1).2⟩)
          exact q _ _ _ _ s5 st5
        · exact q.elim
      · exact q.elim
    · exact q.elim
  · cases h
/-- x[k] = v, x a dict of the slot's own -/
theorem ps_setDT (K : Ctx M c Ex N sc true lvl X) (W : CallOk M c C lvl fn np) {i : Nat} {k a : ME} {x : Stmt} (h : mSetI N sc i (fun y => mE fn N k sc y) (fun y => noLc y && mE fn N a sc y) x = true) : PS X x (rsX c Ex (ex C (.setDT i k a))) := by
  unfold mSetI at h
  split at h
  · rename_i y py kx spos v pos
    simp only [Bool.and_eq_true] at h
    obtain ⟨⟨⟨⟨h1, h2⟩, h5⟩, h3⟩, h6, h4⟩ := h
    have gk := sound_E (Ex := Ex) W k K h3
    have g := sound_E (Ex := Ex) W a K h4
    have hu := K.hu
    refine PS.weak (ps_dput (by omega) (pe_name K h1) gk.S g.S (noSw h6 h4)) fun D σ H q => ?_
    obtain ⟨G, F, e, s, q⟩ := q
    simp only [ex] at q
    refine (rs_at (rep1 := repS c) s Step.refl q).imp fun z H1 q => ?_
    obtain ⟨G1, F1, Fr1, e1, od, s1, g1, st1, ⟨rfl, rp1⟩, nd1, fr1, q⟩ := q
    simp only [List.append_nil] at st1
    split at q
    · rename_i ho
      obtain ⟨l, ho⟩ := isOdt_some ho
      obtain ⟨w, Fa, Fi, Fb, e3, _, ro, _⟩ := s1.ren.get ho
      refine ⟨w, e3, (rs_at (rep1 := repS c) s1 st1 q).imp fun zk H2 q => ?_⟩
      obtain ⟨G2, F2, Fr2, e4, kd, s2, g2, st2, ⟨rfl, rp2⟩, nd2, fr2, q⟩ := q
      split at q
      · rename_i l2 kk hx hk
        split at q
        · rename_i hz
          obtain ⟨v2, Fi2, e5, ro2, nf, put⟩ := s2.mutQ st2 nd2 fr2 hx
          rw [e3] at e5
          cases e5
          simp only [RO] at ro2
          obtain ⟨p, kvs, F3, rfl, hp, rk, rfl⟩ := ro2
          obtain ⟨b5, rfl, hb5⟩ := keyT_rt s2.sub (rp2.top s2.sub) hk
          refine ⟨p, _, rfl, DPut.t hp hb5 (by rw [rk.len]; exact hz), ?_⟩
          have npF : p ∉ F3 := by
            have := (List.nodup_append.mp nf).1
            exact (List.nodup_cons.mp this).1
          obtain ⟨F4, m4, rk4⟩ := (ROT.mono (Gle.refl _) (agree_upd (o := .dT (putK kvs kk z)) npF) rk).putS (k := kk) (RS.mono g2.gle rp1)
          obtain ⟨F5, s5, st5⟩ := put p (.dT (putK kvs kk z)) (.odt (putD l2 kk (.s od.toD))) (p :: F4) (by simp) (by simp only [RO]; exact ⟨p, _, F4, rfl, upd_same, rk4, rfl⟩)
            (fun a ha => by
              rcases List.mem_cons.mp ha with rfl | ha
              · simp
              · simp [m4.subset ha]) (List.nodup_cons.mpr ⟨fun z => npF (m4.subset z), m4.nodup (List.nodup_cons.mp (List.nodup_append.mp nf).1).2⟩)
          exact q _ _ _ _ s5 st5
        · exact q.elim
      · exact q.elim
    · exact q.elim
  · cases h
/-- x[k] = {} -/
theorem ps_setDN (K : Ctx M c Ex N sc true lvl X) (W : CallOk M c C lvl fn np) {i : Nat} {k : ME} {x : Stmt} (h : mSetI N sc i (fun y => mE fn N k sc y) mDnew x = true) : PS X x (rsX c Ex (ex C (.setDN i k))) := by
  unfold mSetI at h
  split at h
  · rename_i y py kx spos v pos
    simp only [Bool.and_eq_true] at h
    obtain ⟨⟨⟨⟨h1, h2⟩, h5⟩, h3⟩, h4⟩ := h
    have gk := sound_E (Ex := Ex) W k K h3
    have hu := K.hu
    unfold mDnew at h4
    split at h4
    · rename_i dpos
      refine PS.weak (ps_dput (by omega) (pe_name K h1) gk.S pe_dnewK rfl) fun D σ H q => ?_
      obtain ⟨G, F, e, s, q⟩ := q
      simp only [ex] at q
      intro p hp
      split at q
      · rename_i ho
        obtain ⟨l, ho⟩ := isOdk_some ho
        obtain ⟨s1, st1, nd1, fr1⟩ := s.grow (Grow.own (o := .dK []) s.sub hp)
        obtain ⟨w, Fa, Fi, Fb, e3, _, ro, _⟩ := s1.ren.get ho
        refine ⟨w, e3, ⟨G, F, e, s1, ?_⟩⟩
        revert q
        cases ev C k e with
        | ok kd e2 =>
          intro q zk H2 G2 F2 Fr2 s2 st2 rp2 nd2 fr2
          obtain ⟨rfl, rp2⟩ := rp2
          simp only [SOut.of] at q
          simp only [List.append_nil] at st2 nd2
          obtain ⟨st3, ag, nd3, fr3⟩ := st1.carry st2 nd1 fr1 (fun a ha => by
            rw [List.mem_singleton] at ha
            subst ha
            exact ⟨_, upd_same, trivial⟩) nd2
          split at q
          · rename_i l2 kk hx hk
            split at q
            · rename_i hz
              obtain ⟨v2, Fi2, e5, ro2, nf, put⟩ := s2.mutQ st3 nd3 fr3 hx
              rw [e3] at e5
              cases e5
              simp only [RO] at ro2
              obtain ⟨b, kvs, F3, rfl, hb, rk, rfl⟩ := ro2
              obtain rfl := keyD_rt (rp2.top s2.sub) hk
              refine ⟨b, _, rfl, DPut.k hb (by rw [rk.len]; exact hz.1), ?_⟩
              have nf0 := nf
              rw [List.nodup_append] at nf
              obtain ⟨nf1, nf2, nf3⟩ := nf
              have nbF : b ∉ F3 := (List.nodup_cons.mp nf1).1
              have nbp : b ≠ p := fun z => nf3 b (by simp) p (by simp) z
              have hp2 : H2 p = some (.dK []) := ag p (by simp) _ upd_same
              have hn : (l2.any fun p => decide (p.1 = kk)) = false := by
                cases hh : (l2.any fun p => decide (p.1 = kk)) with
                | false => rfl
                | true =>
                  have hv := hz.2
                  unfold valO at hv
                  simp only [Option.map_eq_none_iff, List.find?_eq_none] at hv
                  simp only [List.any_eq_true] at hh
                  obtain ⟨u, hu1, hu2⟩ := hh
                  exact absurd hu2 (hv u hu1)
              have ep : putK kvs kk (.ref p) = kvs ++ [(kk, .ref p)] := by
                unfold putK
                rw [rk.any kk, hn]
                rfl
              rw [ep]
              have rk4 := ROK.snoc (k := kk) (od := .odk []) (v := .ref p) (Fv := [p]) (c := c) (H := upd H2 b (.dK (kvs ++ [(kk, .ref p)]))) (G := G2) (by
                simp only [RO]
                exact ⟨p, [], [], rfl, by rw [upd_ne (Ne.symm nbp)]; exact hp2, by simp [ROK], rfl⟩) (ROK.mono (Gle.refl _) (agree_upd nbF) rk)
              obtain ⟨F5, s5, st5⟩ := put b (.dK (kvs ++ [(kk, .ref p)])) (.odk (l2 ++ [(kk, .odk [])])) (b :: (F3 ++ [p])) (by simp) (by simp only [RO]; exact ⟨b, _, F3 ++ [p], rfl, upd_same, rk4, rfl⟩)
                (fun a ha => by simpa using ha) (by simpa using nf0)
              exact q _ _ _ _ s5 st5
            · exact q.elim
          · exact q.elim
        | exc kx e2 => exact fun q H2 G2 F2 s2 st2 => q H2 G2 s2.sub (((st1.less fun a h => List.mem_append_left _ h).trans st2).less fun _ z => by cases z)
        | bad => exact fun q => q
      · exact q.elim
    · cases h4
  · cases h
theorem noSl_of {y : Expr} (h : noSlice y = true) : NoSl y := by
  intro o i
  cases y <;> first | rfl | cases h
/-- x[k][j] = v, x a dict of dicts of the slot's own, k and j names -/
theorem ps_setDD (K : Ctx M c Ex N sc true lvl X) (W : CallOk M c C lvl fn np) {i j1 j2 : Nat} {a : ME} {x : Stmt} (h : mSetDD N sc i j1 j2 (fun y => noLc y && mE fn N a sc y) x = true) : PS X x (rsX c Ex (ex C (.setDD i j1 j2 a))) := by
  unfold mSetDD at h
  split at h
  · rename_i y py n1 p1 kpos n2 p2 spos v pos
    simp only [Bool.and_eq_true] at h
    obtain ⟨⟨⟨⟨h1, h3⟩, h7⟩, h2⟩, h8, h4⟩ := h
    have g := sound_E (Ex := Ex) W a K h4
    have hu := K.hu
    refine PS.weak (ps_dput (by omega) (pe_dget (by omega) (pe_name K h1) (pe_name K h3) (noSl_of rfl)) (pe_name K h7) g.S (noSw h8 h4)) fun D σ H q => ?_
    obtain ⟨G, F, e, s, q⟩ := q
    simp only [ex] at q
    refine (rs_at (rep1 := repS c) s Step.refl q).imp fun z H1 q => ?_
    obtain ⟨G1, F1, Fr1, e1, od, s1, g1, st1, ⟨rfl, rp1⟩, nd1, fr1, q⟩ := q
    split at q
    · rename_i l d1 d2 hx hj1 hj2
      split at q
      · rename_i k1 k2 hk1 hk2
        split at q
        · rename_i l2 hv
          split at q
          · rename_i hz
            obtain ⟨w1, _, _, _, ew1, _, ro1, _⟩ := s1.ren.get hj1
            obtain ⟨w2, _, _, _, ew2, _, ro2, _⟩ := s1.ren.get hj2
            simp only [RO] at ro1 ro2
            obtain rfl := keyD_rt (ro1.1.top s1.sub) hk1
            obtain rfl := keyD_rt (ro2.1.top s1.sub) hk2
            obtain ⟨v2, Fi2, e5, ro, nf, put⟩ := s1.mutQ st1 nd1 fr1 hx
            simp only [List.append_nil] at nf
            have ro' := ro
            simp only [RO] at ro
            obtain ⟨p, kvs, F3, rfl, hp, rk, rfl⟩ := ro
            obtain ⟨vi, Fa, Fi, Fb, vv, rfl, roi, rput⟩ := rk.at_ hv
            simp only [RO] at roi
            obtain ⟨qa, kvs2, F4, rfl, hq, rk2, rfl⟩ := roi
            obtain ⟨npF, nF3⟩ := List.nodup_cons.mp nf
            rw [List.nodup_append] at nF3
            obtain ⟨m1, m2, m3⟩ := nF3
            rw [List.nodup_append] at m2
            obtain ⟨o1, o2, o3⟩ := m2
            obtain ⟨r1, r2⟩ := List.nodup_cons.mp o1
            have nqp : p ≠ qa := fun z => npF (by simp [z])
            have nqa : qa ∉ Fa := fun z => m3 qa z qa (by simp) rfl
            have nqb : qa ∉ Fb := fun z => o3 qa (by simp) qa z rfl
            obtain ⟨F5, mm, rk5⟩ := (ROK.mono (Gle.refl _) (agree_upd (o := .dK (putK kvs2 k2 z)) r1) rk2).putS (k := k2) rp1
            have rk6 := rput (upd H1 qa (.dK (putK kvs2 k2 z))) (.odk (putD l2 k2 (.s od.toD))) (qa :: F5) (agree_upd fun z => (List.mem_append.mp z).elim nqa nqb) (by simp only [RO]; exact ⟨qa, _, F5, rfl, upd_same, rk5, rfl⟩)
            obtain ⟨F6, s6, st6⟩ := put qa (.dK (putK kvs2 k2 z)) (.odk (putO l k1 (.odk (putD l2 k2 (.s od.toD))))) (p :: (Fa ++ ((qa :: F5) ++ Fb))) (by simp)
              (by simp only [RO]; exact ⟨p, kvs, _, rfl, by rw [upd_ne nqp]; exact hp, rk6, rfl⟩)
              (fun a ha => by
                simp only [List.mem_append, List.mem_cons, List.append_nil] at ha ⊢
                rcases ha with h | h | (h | h) | h
                · simp [h]
                · simp [h]
                · simp [h]
                · simp [mm.subset h]
                · simp [h])
              (by
                refine List.Nodup.sublist ?_ nf
                refine List.Sublist.cons_cons _ ?_
                refine List.Sublist.append (List.Sublist.refl _) ?_
                refine List.Sublist.append ?_ (List.Sublist.refl _)
                exact List.Sublist.cons_cons _ mm)
            refine ⟨.ref p, e5, kV k1, ew1, p, .ref qa, rfl, ?_, kV k2, ew2, qa, _, rfl, DPut.k hq (by rw [rk2.len]; exact hz), q _ _ _ _ s6 st6⟩
            rw [← vv]
            exact DGet.k hp
          · exact q.elim
        · exact q.elim
      · exact q.elim
    · exact q.elim
  · cases h
/-- x += v, ints -/
theorem ps_augT (K : Ctx M c Ex N sc true lvl X) (W : CallOk M c C lvl fn np) {i : Nat} {a : ME} {x : Stmt} (h : mAug N sc i (fun y => mE fn N a sc y) x = true) : PS X x (rsX c Ex (ex C (.aug i a))) := by
  unfold mAug at h
  split at h
  · rename_i y py op v pos
    simp only [Bool.and_eq_true, decide_eq_true_eq] at h
    obtain ⟨⟨h1, rfl⟩, h4⟩ := h
    have g := sound_E (Ex := Ex) W a K h4
    obtain ⟨n1, n2, n3⟩ := store_vis K h1
    have hN : X.N.Nodup := by rw [K.n]; exact K.nd
    refine PS.weak (ps_aug hN n1 n2 g.S ip_add n3) fun D σ H q => ?_
    obtain ⟨G, F, e, s, q⟩ := q
    simp only [ex] at q
    split at q
    · rename_i xi hx
      obtain ⟨w, Fa, Fi, Fb, ew, _, ro, _⟩ := s.ren.get hx
      simp only [RO, RS] at ro
      obtain ⟨rfl, _⟩ := ro
      refine ⟨_, ew, (rs_at (rep1 := repS c) s Step.refl q).imp fun z H1 q => ?_⟩
      obtain ⟨G1, F1, Fr1, e1, od, s1, g1, st1, ⟨rfl, rp1⟩, nd1, fr1, q⟩ := q
      split at q
      · rename_i yi hy
        rw [hy] at rp1
        simp only [RS] at rp1
        subst rp1
        split at q
        · rename_i hi
          obtain ⟨F2, s2, mem⟩ := s1.store (od := .s (.int (xi + yi))) (v := .int (xi + yi)) hi (by simp [RO, RS]) nd1 fr1
          exact ⟨xi, yi, rfl, rfl, q _ _ _ _ s2 (st1.less mem)⟩
        · exact q.elim
      · exact q.elim
    · exact q.elim
  · cases h
end
end MW
namespace MW
open L2 PyProof.Rows PySem.Spec PySem
/-! ### asking a caught exception for its class -/
/-- isinstance(e, (c1, c2, ..)), e the exception that the suite holds -/
def rIsET (K : PySem.W.Frag) (D a : Addr) : List V → Hp → VK → Prop := fun xs H Q => ∃ (tp : Addr) (cs : List V) (us : List Value) (b : Bool), xs = [.ref a, .ref tp] ∧ H tp = some (.tup cs) ∧ Paired ClsV cs us ∧ PySem.W.kitAny K (.ref D) us = some b ∧ Q (.bl b) H
theorem call_isET {X : Cx} {a D : Addr} {oe : Obj} {pn : List (Addr × Obj)} (C : ExcC X.K D) (hz : Zc (.ref D) none oe) (hf : ∃ vs, oe.data = .fields vs) : CallR (X.suite a ((a, oe) :: pn)) (.builtin "isinstance") (rIsET X.K D a) := by
  intro pins s σ H xs us Q I r h
  obtain ⟨tp, cs, ws, b, rfl, hT, k, e, q⟩ := h
  cases r with
  | cons rx rr =>
    cases rr with
    | cons rt rr =>
      cases rr
      cases rx
      cases rt
      obtain ⟨_, its, rv, o, h1, h2, n, h3⟩ := I.hok tp _ hT
      have e3 := ClsV.all k rv
      subst e3
      obtain ⟨oc, od, dt, sl⟩ := o
      simp only at h2 h3
      subst h2 h3
      obtain ⟨hget, _⟩ := I.pin (a, oe) (List.mem_append.mpr (.inl List.mem_cons_self))
      obtain ⟨vs, hv⟩ := hf
      have J : PySem.W.InstAt s.heap a oe D none := by
        obtain ⟨oc, od, oda, osl⟩ := oe
        obtain ⟨z1, z2⟩ := hz
        dsimp only at z1 z2 hv
        subst z1 z2 hv
        exact ⟨hget, rfl, rfl, trivial⟩
      exact PySem.W.kia_tup (PySem.W.handS_kitx_exc C.hg C.hk C.hs C.hd C.ha C.hn C.ht C.hm) I.kIn J h1 e (fun z => nomatch z) fun tk => ⟨.bl b, H, I.kept (t' := tk) fun _ _ z => z, rfl, q⟩
/-! tests in a suite: their own small language; `r x`: what isinstance(e, x) answers -/
/-- a test's reading: e holds the exception; whatever is laid meanwhile -/
def tHB (i : Nat) (a : Addr) (b : Bool) : TE := fun σ H Q => σ[i]? = some (some (.ref a)) ∧ ∀ H', (∀ b o, H b = some o → H' b = some o) → Q (.bl b) H'
section
variable {X : Cx} {a D : Addr} {oe : Obj} {pn : List (Addr × Obj)} {sc : Scope} {e : Str} {i : Nat} {r : Str → Bool}
theorem cls_pe {x : Str} {b : Bool} {p : Pos} (hsc : X.env.scope = sc) (hg : gl sc x = true) (hd : (x == ("__debug__" : Str)) = false) (f : HFact X.K X.mg D x b) :
    ∃ (c : V) (cv : Value), PE (X.suite a ((a, oe) :: pn)) (.Name x p) (tC c) ∧ ClsV c cv ∧ PySem.W.kitOne X.K (.ref D) cv = some b := by
  have g : Gl (X.suite a ((a, oe) :: pn)) x := by
    subst hsc
    have hg := hg
    unfold gl at hg
    rw [decide_eq_true_eq] at hg
    exact hg
  rcases f with ⟨C, hm, hk⟩ | ⟨T, hm, hb, hn, hk⟩
  · exact ⟨.ref C, .ref C, pe_glob g hm rfl hd, .own C, hk⟩
  · exact ⟨.ty T, .type T, pe_bltn g hm hb rfl hn hd, .ty T, hk⟩
theorem isc_ok {x : Str} {z : Expr} (C : ExcC X.K D) (hz : Zc (.ref D) none oe) (hf : ∃ vs, oe.data = .fields vs) (hsc : X.env.scope = sc) (hN : X.N[i]? = some e) (hv : Vis X.env.scope e) (hde : (e == ("__debug__" : Str)) = false) (hcd : (e == ("__classdict__" : Str)) = false) (bl : X.mg "isinstance" = none) (f : HFact X.K X.mg D x (r x))
    (h : mHB sc e (.isc x) z = true) : PE (X.suite a ((a, oe) :: pn)) z (tHB i a (r x)) := by
  unfold mHB at h
  split at h
  · rename_i x' f0 p0 n p1 y p2 pos heq
    cases heq
    simp only [Bool.and_eq_true, decide_eq_true_eq, Bool.not_eq_true'] at h
    obtain ⟨⟨⟨⟨⟨h1, rfl⟩, rfl⟩, rfl⟩, h2⟩, h3⟩ := h
    obtain ⟨c, cv, pc, kc, hk⟩ := cls_pe (a := a) (oe := oe) (pn := pn) (p := p2) hsc h2 h3 f
    have g : Gl (X.suite a ((a, oe) :: pn)) "isinstance" := by
      subst hsc
      have h1 := h1
      unfold gl at h1
      rw [decide_eq_true_eq] at h1
      exact h1
    have pv : PE (X.suite a ((a, oe) :: pn)) (.Name n p1) (tVar i) := pe_var (X := X.suite a ((a, oe) :: pn)) hN hv hde hcd
    refine PE.weak (pe_callB (call_isE C hz hf) g bl PyProof.Rows.boot_isinstance (pa_cons pv (pa_cons pc pa_nil))) fun σ H Q q => ?_
    obtain ⟨q1, q2⟩ := q
    exact ⟨_, q1, c, cv, r y, rfl, fun u ru => kc.eq ru, hk, q2 H fun _ _ z => z⟩
  all_goals (first | cases h | (rename_i heq; cases heq) | skip)
theorem names_pa (hsc : X.env.scope = sc) : ∀ {es : List Expr} {xs : List Str}, names es = some xs → (∀ y ∈ xs, gl sc y = true ∧ (y == ("__debug__" : Str)) = false ∧ HFact X.K X.mg D y (r y)) →
    ∃ cs us, PA (X.suite a ((a, oe) :: pn)) es (fun σ H Q => Q cs H) ∧ Paired ClsV cs us ∧ PySem.W.kitAny X.K (.ref D) us = some (xs.any r) ∧ cs.length = xs.length
  | [], xs, h, _ => by
    simp only [names, Option.some.injEq] at h
    subst h
    exact ⟨[], [], pa_nil, .nil, rfl, rfl⟩
  | z :: l, xs, h, q => by
    cases z <;> first | (simp [names] at h; done) | skip
    rename_i x p
    simp only [names, Option.map_eq_some_iff] at h
    obtain ⟨ys, hy, rfl⟩ := h
    obtain ⟨g, d, f⟩ := q x List.mem_cons_self
    obtain ⟨c, cv, pc, kc, hk⟩ := cls_pe (a := a) (oe := oe) (pn := pn) (p := p) hsc g d f
    obtain ⟨cs, us, pa, kk, ha, hln⟩ := names_pa hsc hy fun y m => q y (List.mem_cons_of_mem _ m)
    refine ⟨c :: cs, cv :: us, PA.weak (pa_cons pc pa) fun σ H Q z => z, .cons kc kk, ?_, by rw [List.length_cons, List.length_cons, hln]⟩
    rw [List.any_cons]
    refine kitAny_cons hk (fun e => ?_) (fun e => ?_)
    · rw [e, Bool.false_or]; exact ha
    · rw [e, Bool.true_or]
theorem paired_len {α β : Type} {R : α → β → Prop} : ∀ {l : List α} {m : List β}, Paired R l m → l.length = m.length
  | _, _, .nil => rfl
  | _, _, .cons _ t => by rw [List.length_cons, List.length_cons, paired_len t]
theorem names_len : ∀ {es : List Expr} {xs : List Str}, names es = some xs → es.length = xs.length
  | [], xs, h => by simp only [names, Option.some.injEq] at h; subst h; rfl
  | z :: l, xs, h => by
    cases z <;> first | (simp [names] at h; done) | skip
    simp only [names, Option.map_eq_some_iff] at h
    obtain ⟨ys, hy, rfl⟩ := h
    rw [List.length_cons, List.length_cons, names_len hy]
theorem ist_ok {xs : List Str} {z : Expr} (C : ExcC X.K D) (hz : Zc (.ref D) none oe) (hf : ∃ vs, oe.data = .fields vs) (hsc : X.env.scope = sc) (hN : X.N[i]? = some e) (hv : Vis X.env.scope e) (hde : (e == ("__debug__" : Str)) = false) (hcd : (e == ("__classdict__" : Str)) = false) (bl : X.mg "isinstance" = none) (hl : xs.length ≤ 100) (f : ∀ x ∈ xs, HFact X.K X.mg D x (r x))
    (h : mHB sc e (.ist xs) z = true) : PE (X.suite a ((a, oe) :: pn)) z (tHB i a (xs.any r)) := by
  unfold mHB at h
  split at h
  all_goals (first | cases h | (rename_i heq; cases heq; done) | skip)
  rename_i xs' f0 p0 n p1 es p2 p3 pos heq
  cases heq
  simp only [Bool.and_eq_true, decide_eq_true_eq, Bool.not_eq_true', List.all_eq_true] at h
  obtain ⟨⟨⟨⟨h1, rfl⟩, rfl⟩, h2⟩, h3⟩ := h
  obtain ⟨cs, us, pa, kk, ha, hln⟩ := names_pa (a := a) (oe := oe) (pn := pn) (r := r) (D := D) hsc h2 fun y m => ⟨(h3 y m).1, (h3 y m).2, f y m⟩
  have g : Gl (X.suite a ((a, oe) :: pn)) "isinstance" := by
    subst hsc
    have h1 := h1
    unfold gl at h1
    rw [decide_eq_true_eq] at h1
    exact h1
  have pv : PE (X.suite a ((a, oe) :: pn)) (.Name n p1) (tVar i) := pe_var (X := X.suite a ((a, oe) :: pn)) hN hv hde hcd
  refine PE.weak (pe_callB (call_isET C hz hf) g bl PyProof.Rows.boot_isinstance (pa_cons pv (pa_cons (pe_tup pa) pa_nil))) fun σ H Q q => ?_
  obtain ⟨q1, q2⟩ := q
  refine ⟨_, q1, ?_, fun p hp => ⟨p, cs, us, xs.any r, rfl, upd_same, kk, ha, q2 _ fun b o hb => ?_⟩⟩
  · exact Nat.le_trans (by omega) (show (100 : Nat) ≤ sizeLine by decide)
  · by_cases hbp : b = p
    · subst hbp; rw [hp] at hb; cases hb
    · rw [upd_ne hbp]; exact hb
def tHBt (i : Nat) (a : Addr) (b : Bool) : TT := fun σ H Q => σ[i]? = some (some (.ref a)) ∧ ∀ H', (∀ b o, H b = some o → H' b = some o) → Q b H'
structure GoodB (X : Cx) (i : Nat) (a : Addr) (b : Bool) (z : Expr) : Prop where
  pe : PE X z (tHB i a b)
  pt : PT X z (tHBt i a b)
  pw : ∀ op vs pos, z = .BoolOp op vs pos → PW X z (tHBt i a b)
theorem GoodB.call {Y : Cx} {b : Bool} {f : Expr} {es : List Expr} {kw : List Keyword} {p : Pos} (h : PE Y (.Call f es kw p) (tHB i a b)) : GoodB Y i a b (.Call f es kw p) :=
  ⟨h, PT.weak (pt_val h) fun σ H Q q => ⟨q.1, fun H' e => ⟨b, rfl, q.2 H' e⟩⟩, fun _ _ _ e => by cases e⟩
theorem hb_ok (C : ExcC X.K D) (hz : Zc (.ref D) none oe) (hf : ∃ vs, oe.data = .fields vs) (hsc : X.env.scope = sc) (hN : X.N[i]? = some e) (hv : Vis X.env.scope e) (hde : (e == ("__debug__" : Str)) = false) (hcd : (e == ("__classdict__" : Str)) = false) (bl : X.mg "isinstance" = none) :
    ∀ (h : HB) (z : Expr), mHB sc e h z = true → hsmall h → (∀ x ∈ hnames h, HFact X.K X.mg D x (r x)) → GoodB (X.suite a ((a, oe) :: pn)) i a (hbev r h) z
  | .isc x, z, h, _, f => by
    have k := isc_ok (a := a) (pn := pn) C hz hf hsc hN hv hde hcd bl (f x (List.mem_singleton.mpr rfl)) h
    cases z <;> first | (simp [mHB] at h; done) | exact .call k
  | .ist xs, z, h, hs, f => by
    have k := ist_ok (a := a) (pn := pn) C hz hf hsc hN hv hde hcd bl hs f h
    cases z <;> first | (simp [mHB] at h; done) | exact .call k
  | .not1 b, z, h, hs, f => by
    unfold mHB at h
    split at h
    all_goals (first | cases h | (rename_i heq; cases heq; done) | skip)
    rename_i heq
    cases heq
    have g := hb_ok C hz hf hsc hN hv hde hcd bl b _ h hs f
    refine ⟨PE.weak (pe_not g.pe) fun σ H Q q => ⟨q.1, fun H' x => ⟨_, rfl, q.2 H' x⟩⟩, PT.weak (pt_not g.pt) fun σ H Q q => ⟨q.1, fun H' x => q.2 H' x⟩, fun _ _ _ x => by cases x⟩
  | .and2 b1 b2, z, h, hs, f => by
    unfold mHB at h
    split at h
    all_goals (first | cases h | (rename_i heq; cases heq; done) | skip)
    rename_i y z' rs p heq
    cases heq
    rw [Bool.and_eq_true] at h
    have g1 := hb_ok C hz hf hsc hN hv hde hcd bl b1 _ h.1 hs.1 fun x m => f x (List.mem_append.mpr (.inl m))
    have g2 : PE (X.suite a ((a, oe) :: pn)) (.BoolOp .And (z' :: rs) p) (tHB i a (hbev r b2)) ∧ PW (X.suite a ((a, oe) :: pn)) (.BoolOp .And (z' :: rs) p) (tHBt i a (hbev r b2)) := by
      cases rs with
      | nil =>
        have g := hb_ok C hz hf hsc hN hv hde hcd bl b2 _ h.2 hs.2 fun x m => f x (List.mem_append.mpr (.inr m))
        exact ⟨pe_one g.pe, pw_and1 g.pt⟩
      | cons w rs =>
        have g := hb_ok C hz hf hsc hN hv hde hcd bl b2 _ h.2 hs.2 fun x m => f x (List.mem_append.mpr (.inr m))
        exact ⟨g.pe, g.pw _ _ _ rfl⟩
    have pw : PW (X.suite a ((a, oe) :: pn)) (.BoolOp .And (y :: z' :: rs) p) (tHBt i a (hbev r b1 && hbev r b2)) := by
      refine PW.weak (pw_and g1.pt g2.2) fun σ H Q q => ⟨q.1, fun H' x => ?_⟩
      cases hb : hbev r b1 with
      | true => rw [hb, Bool.true_and] at q; exact iteT ⟨q.1, fun H2 x2 => q.2 H2 fun b o m => x2 _ _ (x _ _ m)⟩
      | false => rw [hb, Bool.false_and] at q; exact iteF (q.2 H' x)
    refine ⟨PE.weak (pe_and g1.pe g2.1) fun σ H Q q => ⟨q.1, fun H' x => ⟨_, rfl, ?_⟩⟩, pw.pt, fun _ _ _ x => by cases x; exact pw⟩
    simp only [hbev] at q
    cases hb : hbev r b1 with
    | true => rw [hb, Bool.true_and] at q; exact iteT ⟨q.1, fun H2 x2 => q.2 H2 fun b o m => x2 _ _ (x _ _ m)⟩
    | false => rw [hb, Bool.false_and] at q; exact iteF (q.2 H' x)
  | .or2 b1 b2, z, h, hs, f => by
    unfold mHB at h
    split at h
    all_goals (first | cases h | (rename_i heq; cases heq; done) | skip)
    rename_i y z' rs p heq
    cases heq
    rw [Bool.and_eq_true] at h
    have g1 := hb_ok C hz hf hsc hN hv hde hcd bl b1 _ h.1 hs.1 fun x m => f x (List.mem_append.mpr (.inl m))
    have g2 : PE (X.suite a ((a, oe) :: pn)) (.BoolOp .Or (z' :: rs) p) (tHB i a (hbev r b2)) ∧ PW (X.suite a ((a, oe) :: pn)) (.BoolOp .Or (z' :: rs) p) (tHBt i a (hbev r b2)) := by
      cases rs with
      | nil =>
        have g := hb_ok C hz hf hsc hN hv hde hcd bl b2 _ h.2 hs.2 fun x m => f x (List.mem_append.mpr (.inr m))
        exact ⟨pe_one g.pe, pw_or1 g.pt⟩
      | cons w rs =>
        have g := hb_ok C hz hf hsc hN hv hde hcd bl b2 _ h.2 hs.2 fun x m => f x (List.mem_append.mpr (.inr m))
        exact ⟨g.pe, g.pw _ _ _ rfl⟩
    have pw : PW (X.suite a ((a, oe) :: pn)) (.BoolOp .Or (y :: z' :: rs) p) (tHBt i a (hbev r b1 || hbev r b2)) := by
      refine PW.weak (pw_or g1.pt g2.2) fun σ H Q q => ⟨q.1, fun H' x => ?_⟩
      cases hb : hbev r b1 with
      | false => rw [hb, Bool.false_or] at q; exact iteF ⟨q.1, fun H2 x2 => q.2 H2 fun b o m => x2 _ _ (x _ _ m)⟩
      | true => rw [hb, Bool.true_or] at q; exact iteT (q.2 H' x)
    refine ⟨PE.weak (pe_or g1.pe g2.1) fun σ H Q q => ⟨q.1, fun H' x => ⟨_, rfl, ?_⟩⟩, pw.pt, fun _ _ _ x => by cases x; exact pw⟩
    simp only [hbev] at q
    cases hb : hbev r b1 with
    | false => rw [hb, Bool.false_or] at q; exact iteF ⟨q.1, fun H2 x2 => q.2 H2 fun b o m => x2 _ _ (x _ _ m)⟩
    | true => rw [hb, Bool.true_or] at q; exact iteT (q.2 H' x)
/-! suites of such tests: each path returns a constant or a test -/
theorem hc_pe {Y : Cx} {v : HC} {z : Expr} (h : mHC v z = true) : PE Y z (tC v.v) := by
  unfold mHC at h
  split at h
  · rw [decide_eq_true_eq] at h; subst h; exact pe_bl
  · rw [decide_eq_true_eq] at h; subst h; exact pe_str
  · cases h
/-- a suite's reading -/
def tHS (i : Nat) (a : Addr) (v : V) : TS := fun D σ H => σ[i]? = some (some (.ref a)) ∧ ∀ H', (∀ b o, H b = some o → H' b = some o) → D.rt v H'
theorem hs_ok {fn : Nm} {P : Str → Prop} (hn : L2N.Zn (.ref D) none oe) (rm : Room 1 X.A) (hw : P "ValueError" → ∀ f x wd, fn.w f = some (x, wd) → ∃ a fd ps, X.mg x = some (.ref a) ∧ PySem.W.keepIn X.K (.ref a) = true ∧ Binds X.K fd ps [] ∧ FnW X.prog X.w X.K X.mg X.base (L2N.CX X.prog X.w) 1 a fd ps (rWd D (wordOf r wd))) (C : ExcC X.K D) (hz : Zc (.ref D) none oe) (hf : ∃ vs, oe.data = .fields vs) (hsc : X.env.scope = sc) (hN : X.N[i]? = some e) (hv : Vis X.env.scope e) (hde : (e == ("__debug__" : Str)) = false) (hcd : (e == ("__classdict__" : Str)) = false) (bl : X.mg "isinstance" = none) :
    ∀ (h : HS) (l : List Stmt), mHS fn sc e h l = true → hssmall h → (∀ x ∈ hsnames h, HFact X.K X.mg D x (r x)) → (∀ x ∈ hsnames h, P x) → PSs (X.suite a ((a, oe) :: pn)) l (tHS i a (hsev r h).v)
  | .ifR c v k, l, h, hs, f, pf => by
    unfold mHS at h
    split at h
    all_goals (first | cases h | (rename_i heq; cases heq; done) | skip)
    rename_i t w p1 p2 rest heq
    cases heq
    rw [Bool.and_eq_true, Bool.and_eq_true] at h
    have g := hb_ok (a := a) (pn := pn) C hz hf hsc hN hv hde hcd bl c _ h.1.1 hs.1 fun x m => f x (List.mem_append.mpr (.inl m))
    have k1 := hs_ok hn rm hw C hz hf hsc hN hv hde hcd bl k _ h.2 hs.2 (fun x m => f x (List.mem_append.mpr (.inr m))) fun x m => pf x (List.mem_append.mpr (.inr m))
    refine PSs.weak (pss_cons (ps_if g.pt (pss_one (ps_ret (hc_pe h.1.2))) pss_nil) k1) fun D' σ H q => ?_
    refine ⟨q.1, fun H' x => ?_⟩
    simp only [hsev] at q
    cases hb : hbev r c with
    | true => rw [hb, if_pos rfl] at q; exact iteT (q.2 H' x)
    | false => rw [hb, if_neg Bool.false_ne_true] at q; exact iteF ⟨q.1, fun H2 x2 => q.2 H2 fun b o m => x2 _ _ (x _ _ m)⟩
  | .retB b, l, h, hs, f, _ => by
    unfold mHS at h
    split at h
    all_goals (first | cases h | (rename_i heq; cases heq; done) | skip)
    rename_i z p heq
    cases heq
    have g := hb_ok (a := a) (pn := pn) C hz hf hsc hN hv hde hcd bl b _ h hs f
    exact PSs.weak (pss_one (ps_ret g.pe)) fun D' σ H q => q
  | .retC v, l, h, hs, f, _ => by
    unfold mHS at h
    split at h
    all_goals (first | cases h | (rename_i heq; cases heq; done) | skip)
    rename_i z p heq
    cases heq
    exact PSs.weak (pss_one (ps_ret (hc_pe h))) fun D' σ H q => q.2 H fun _ _ m => m
  | .retW f wd, l, h, hs, f0, pf => by
    unfold mHS at h
    split at h
    all_goals (first | cases h | (rename_i heq; cases heq; done) | skip)
    rename_i f' wd' x p1 n p2 p3 p4 heq
    cases heq
    simp only [Bool.and_eq_true, decide_eq_true_eq, Bool.not_eq_true'] at h
    obtain ⟨⟨⟨h1, rfl⟩, h2⟩, h3⟩ := h
    obtain ⟨b, fd, ps, hm, hk, hb, F⟩ := hw (pf _ List.mem_cons_self) _ _ _ h2
    obtain ⟨vs, hd⟩ := hf
    have g : Gl (X.suite a ((a, oe) :: pn)) x := by
      subst hsc
      have h1 := h1
      unfold gl at h1
      rw [decide_eq_true_eq] at h1
      exact h1
    have pv : PE (X.suite a ((a, oe) :: pn)) (.Name n p2) (tVar i) := pe_var (X := X.suite a ((a, oe) :: pn)) hN hv hde hcd
    refine PSs.weak (pss_one (ps_ret (pe_callW (X := X.suite a ((a, oe) :: pn)) (E := fun _ _ _ => False) (p := (a, oe)) F ⟨rm.dp, rm.un⟩ ⟨rfl, vs, hd, hn.2.2 vs hd⟩ List.mem_cons_self g hm hk hb
      (fun pins σ H s e s' _ z => by obtain ⟨_, _, _, _, _, _, _, _, _, _, _, _, z⟩ := z; exact z.elim) (pa_cons pv pa_nil) h3 rfl rfl))) fun D' σ H q => ?_
    exact ⟨_, q.1, rfl, hz, ⟨vs, hd⟩, fun H' x => q.2 H' x⟩
end
end MW
namespace MW
open L2 PyProof.Rows PySem.Spec PySem
section
open LamX NdefX
variable {c : RC} {Ex : XK} {X : Cx} {M : Mo} {N : List Str} {sc : Scope} {lvl : Nat} {C : CallS} {fn : Nm} {np : Nat → Nat}
theorem ps_retL (K : Ctx M c Ex N sc true lvl X) (W : CallOk M c C lvl fn np) {f g : Nat} {a : ME} {js : List Nat} {x : Stmt} (h : mRet (fun y => mCallL fn N sc (fn f) g js (fun y => mE fn N a sc y) y) x = true) : PS X x (rsX c Ex (ex C (.retL f a g js))) := by
  unfold mRet at h
  split at h
  · have g := pe_callLam (Ex := Ex) K W (fun y q => sound_E W a K q) h
    refine PS.weak (ps_ret g) fun D σ H q => ?_
    obtain ⟨G, F, e, s, q⟩ := q
    simp only [ex] at q
    refine (rs_at (rep1 := repO c) s Step.refl q).imp fun z H1 q => ?_
    obtain ⟨G1, F2, Fr1, e2, od, s1, g1, st1, rp1, nd1, fr1, q⟩ := q
    exact q z H1 G1 Fr1 s1.sub (st1.less fun a h => List.mem_append_right _ h) rp1 (List.nodup_append.mp nd1).2.1 fr1
  · cases h
theorem rt_rd {R : Out OD} {HB GB : Hp} {FB : List Addr} {σ : L2.St} {D : Ends} (h : rsB c Ex HB GB FB (SOut.of R fun od e => .rt od e) D) : rdB c Ex HB GB FB (repO c) R σ D.rt := by
  revert h
  cases R with
  | ok od e => exact fun q v H1 G1 F1 Fr1 s1 st1 rp1 nd1 fr1 => q v H1 G1 Fr1 s1.sub (st1.less fun a h => List.mem_append_right _ h) rp1 (List.nodup_append.mp nd1).2.1 fr1
  | exc k e => exact fun q H1 G1 F1 s1 st1 => q H1 G1 s1.sub (st1.less fun _ z => by cases z)
  | bad => exact fun q => q
/-- def y(..): ..; return x(e, y) -/
theorem ps_defC (K : Ctx M c Ex N sc true lvl X) (W : CallOk M c C lvl fn np) {j f g : Nat} {a : ME} {js : List Nat} {xs : List Stmt} (h : mDefC fn N sc j (fn f) g js (fun y => mE fn N a sc y) xs = true) : PSs X xs (rsX c Ex (exs C (.defC j f a g js))) := by
  unfold mDefC at h
  split at h
  · rename_i st x p0 e y py cpos rpos
    simp only [Bool.and_eq_true, decide_eq_true_eq] at h
    obtain ⟨⟨⟨⟨⟨⟨⟨⟨hg, hn⟩, hd⟩, hr⟩, hl⟩, hc⟩, hs⟩, hv⟩, hy⟩ := h
    obtain ⟨q, nm, fr, hli, hq, hjs⟩ := capOk_of hc
    obtain ⟨name, dpos, q', fr', hst, hli', hd0, hk0, hann, hfree, hfr⟩ := (W.dm g sc st hl).ex
    have hname : name = y := by rw [hst] at hy; exact hy
    subst hname
    rw [hli] at hli'
    cases hli'
    obtain ⟨P, hP⟩ := W.tb g q _ fr hli
    obtain ⟨hqq, c0, hcode, TB⟩ := K.tab rfl P q _ hP hq
    obtain ⟨fa, fd, ps, F, hm, hk, hb⟩ := W.ok f x hn
    have g1 := sound_E (Ex := Ex) W a K hr
    obtain ⟨n1, n2, n3⟩ := store_vis K hs
    have hX : ∀ y ∈ (C8.fnScope st).names, y.2 = .free → X.env.scope.names.lookup y.1 = some .cell := fun y hy e => by rw [K.sc]; exact hfree y hy e
    have hN : X.N.Nodup := by rw [K.n]; exact K.nd
    have p1 := ps_ndef3 (i := j) hst TB hcode hX hd0 hk0 (hann _) hN n1 n2 n3
    rw [← hqq] at p1
    have p2 : PE X (.Call (.Name x p0) [e, .Name nm py] [] cpos) _ := pe_callS (pre := preC c Ex C f g js q fun f co => FnP f (NF.of st nm q (cloFrom X.env.cells (C8.fnScope st).names []) co)) (K.gl hg) (by rw [K.mg]; exact hm) (by rw [K.k]; exact hk)
      (pa_cons g1.S (pa_cons (pe_name K hv) pa_nil (star_cons rfl)) (star_cons g1.ns)) (fun pins s σ H us vs Q I rv hp =>
        run_clo (nsc := C8.fnScope st) K rfl W hn hm hli hjs hfree hfr (fun b f co vs cb => fun _ => ⟨q, _, fr, sc, _, hli, rfl, cb, .inr ⟨st, hl, rfl⟩⟩) I rv hp) hd (star_cons g1.ns) rfl
    refine PSs.weak (pss_cons p1 (pss_one (ps_ret p2))) fun D σ H h => ?_
    obtain ⟨G, F0, e0, s, h⟩ := h
    simp only [exs] at h
    split at h
    · rename_i hfr
      have mk := s.ren.marks _ hP
      refine ⟨(s.sub.tab mk).tabS s.sub, fun fa co H1 m => ?_⟩
      obtain ⟨G1, s1, st1, gf, gco⟩ := s.made m mk
      have s2 := s1.free hfr (some (.ref fa))
      have hset : (σ.set j (some (.ref fa)))[j]? = some (some (.ref fa)) := by
        have : j < σ.length := by
          have e0j : e0[j]? = some none := by
            unfold isFree at hfr
            split at hfr
            · assumption
            · cases hfr
          rw [s.ren.len]
          exact (List.getElem?_eq_some_iff.mp e0j).1
        rw [List.getElem?_set_self this]
      cases hcap : capE js e0 with
      | none => simp only [ev, hcap] at h; exact h.elim
      | some p =>
        obtain ⟨ws, e1⟩ := p
        rw [ev_callL hcap] at h
        have h := rt_rd (σ := σ.set j (some (.ref fa))) h
        obtain ⟨wv, G2, F2, s3, st3, hsl, rws⟩ := s2.caps hcap
        refine (rd_at (rep1 := repS c) (σ := σ.set j (some (.ref fa))) s3 (st1.trans st3) h).imp fun v H2 q1 => ?_
        obtain ⟨G3, F3, Fr3, e3, od, s4, st40, st4, ⟨rfl, rd⟩, nd4, fr4, q4, _⟩ := q1
        refine ⟨.ref fa, hset, ?_⟩
        simp only [List.append_nil] at st4
        split at q4
        · rename_i hnc
          simp only [Bool.and_eq_true] at hnc
          refine ⟨v, fa, co, od.toD, ws, wv, G3, rfl, hsl, s4.sub, s4.ren.marks, (st3.gle.trans st40.gle).ex gf fun z => z, (st3.gle.trans st40.gle).ex gco fun z => z, rd, RSL.mono st40.gle rws, hnc.1, hnc.2, C f [.s od.toD, .s (.clo g ws)], rfl, ?_⟩
          have fin : ∀ R, rdB c Ex H G F0 (repO c) (outR R e3) (σ.set j (some (.ref fa))) D.rt → finP c Ex R H2 G3 [] D.rt := fun R h => call_fin (F1 := F3) (Fr1 := []) s4 (by simpa using st4) (by simpa using s4.nd) h
          revert q4
          cases C f [.s od.toD, .s (.clo g ws)] with
          | ok r =>
            intro q0
            dsimp only at q0
            split at q0
            · rename_i hr
              exact ⟨fun r' z => (by cases z; exact hr), fin (.ok r) q0⟩
            · exact q0.elim
          | exc k => exact fun q0 => ⟨fun r' z => (by cases z), fin (.exc k) q0⟩
          | bad => exact fun q0 => q0.elim
        · exact q4.elim
    · exact h.elim
  · cases h
end
end MW
namespace MW
open L2 PyProof.Rows PySem.Spec PySem
section
variable {c : RC} {Ex : XK} {X : Cx} {M : Mo} {N : List Str} {sc : Scope} {lvl : Nat} {C : CallS} {fn : Nm} {np : Nat → Nat}
def whlTurn (t : Env → Out OD) (b : Env → SOut) (m : Nat) (k : Bool) (e2 : Env) : SOut :=
  if k = true then (match b e2 with
    | .nx e2 => runWhile t b m e2
    | .ct e2 => runWhile t b m e2
    | .bk e2 => .nx e2
    | .rt r e2 => .rt r e2
    | .exc c e2 => .exc c e2
    | .bad => .bad) else .nx e2
theorem ps_whlT (K : Ctx M c Ex N sc true lvl X) (W : CallOk M c C lvl fn np) {n : Nat} {d : ME} {b : MSs} {rb : List Stmt → Bool} (hb : ∀ xs, rb xs = true → PSs X xs (rsX c Ex (exs C b))) {x : Stmt}
    (h : mWhl (fun y => mE fn N d sc y) rb x = true) : PS X x (rsX c Ex (ex C (.whl n d b))) := by
  unfold mWhl at h
  split at h
  · simp only [Bool.and_eq_true] at h
    have g := sound_E (Ex := Ex) W d K h.1
    refine PS.weak (ps_while K.po g.pt (hb _ h.2)) fun D σ H q => ?_
    obtain ⟨G, F, e, s, q⟩ := q
    simp only [ex] at q
    refine ⟨fun m σ1 H1 => ∃ G1 F1 e1, SIM c σ1 H1 G1 F1 e1 ∧ Step H G F H1 G1 F1 ∧ rsB c Ex H G F (runWhile (ev C d) (exs C b) m e1) D, ⟨n, G, F, e, s, Step.refl, q⟩, ?_⟩
    rintro m σ1 H1 ⟨G1, F1, e1, s1, st1, q⟩
    cases m with
    | zero => exact q.elim
    | succ m =>
      have q2 : rsB c Ex H G F (SOut.of (ev C d e1) fun od e2 => match truD od.toD with
          | some k => whlTurn (ev C d) (exs C b) m k e2
          | none => .bad) D := by
        refine Eq.mp ?_ q
        congr 1
        simp only [runWhile]
        cases ev C d e1 with
        | ok od e2 =>
          simp only [SOut.of]
          cases truD od.toD with
          | none => rfl
          | some k => cases k <;> rfl
        | exc k e2 => rfl
        | bad => rfl
      refine (rs_tst s1 st1 q2).imp fun k H2 q => ?_
      obtain ⟨G2, F2, e2, s2, st2, q⟩ := q
      cases k with
      | false => exact iteF (q _ _ _ _ s2 st2)
      | true =>
        refine iteT ⟨fun σ3 H3 => ∃ m', m' < m + 1 ∧ ∃ G1 F1 e1, SIM c σ3 H3 G1 F1 e1 ∧ Step H G F H3 G1 F1 ∧ rsB c Ex H G F (runWhile (ev C d) (exs C b) m' e1) D, fun _ _ z => z, G2, F2, e2, s2, ?_⟩
        unfold whlTurn at q
        rw [if_pos rfl] at q
        revert q
        cases exs C b e2 with
        | nx e3 => exact fun q σ3 H3 G3 F3 s3 st3 => ⟨m, by omega, G3, F3, e3, s3, st2.trans st3, q⟩
        | ct e3 => exact fun q σ3 H3 G3 F3 s3 st3 => ⟨m, by omega, G3, F3, e3, s3, st2.trans st3, q⟩
        | bk e3 => exact fun q σ3 H3 G3 F3 s3 st3 => q σ3 H3 G3 F3 s3 (st2.trans st3)
        | rt od e3 => exact fun q v H3 G3 Fr sb st3 => q v H3 G3 Fr sb (st2.trans st3)
        | exc k e3 => exact fun q H3 G3 sb st3 => q H3 G3 sb (st2.trans st3)
        | bad => exact fun q => q
  · cases h
theorem ri_atS {f : Env → Out (List D)} {g : List D → Env → SOut} {σ : L2.St} {H HB GB G : Hp} {F FB : List Addr} {e : Env} {D : Ends} {R : It → Hp → Prop} (s : SIM c σ H G F e) (st : Step HB GB FB H G F) (h : rsB c Ex HB GB FB (SOut.of (f e) g) D)
    (k : ∀ J H1 G1 F1 e1 l, SIM c σ H1 G1 F1 e1 → Step HB GB FB H1 G1 F1 → Iter c J l G1 → rsB c Ex HB GB FB (g l e1) D → R J H1) : riX c Ex f σ H R := by
  refine ⟨G, F, e, s, ?_⟩
  revert h
  cases f e with
  | ok l e1 => exact fun r J H1 G1 F1 s1 st1 it => k J H1 G1 F1 e1 l s1 (st.trans st1) it r
  | exc k e1 => exact fun r H1 G1 F1 s1 st1 => r H1 G1 s1.sub ((st.trans st1).less fun _ z => by cases z)
  | bad => exact fun r => r
theorem ps_forT (K : Ctx M c Ex N sc true lvl X) (W : CallOk M c C lvl fn np) {t : List Nat} {one : Bool} {it : MI} {b : MSs} {rb : List Stmt → Bool} (hb : ∀ xs, rb xs = true → PSs X xs (rsX c Ex (exs C b))) {x : Stmt}
    (h : mFor N sc t one (fun tg y => mI fn N it sc tg y) rb x = true) : PS X x (rsX c Ex (ex C (.for_ t one it b))) := by
  unfold mFor at h
  split at h
  · simp only [Bool.and_eq_true] at h
    obtain ⟨⟨h1, h2⟩, h3⟩ := h
    refine PS.weak (ps_for K.po K.calm (sound_I (Ex := Ex) W it K h2) (pgT K h1) (hb _ h3) (fold_noSet (mI_noSet h2))) fun D σ H q => ?_
    obtain ⟨G, F, e, s, q⟩ := q
    simp only [ex] at q
    refine ri_atS s Step.refl q fun J H1 G1 F1 e1 l s1 st1 itr q => ?_
    refine ⟨fun i m σ2 H2 => m = l.length - i ∧ i ≤ l.length ∧ ∃ G2 F2 e2, SIM c σ2 H2 G2 F2 e2 ∧ Step H G F H2 G2 F2 ∧ Gle G1 G2 ∧ rsB c Ex H G F (runFor t one (exs C b) (l.drop i) e2) D, ⟨l.length, by omega, Nat.zero_le _, G1, F1, e1, s1, st1, Gle.refl _, q⟩, ?_⟩
    rintro i m σ2 H2 ⟨rfl, hi, G2, F2, e2, s2, st2, g2, q⟩
    cases hd : l[i]? with
    | none =>
      have e0 : i = l.length := by rw [List.getElem?_eq_none_iff] at hd; omega
      subst e0
      left
      rw [List.drop_length] at q
      exact ⟨itr.stop _ _ g2 s2.sub, q _ _ _ _ s2 st2⟩
    | some d =>
      have hlt : i < l.length := (List.getElem?_eq_some_iff.mp hd).1
      right
      refine ⟨itr.go i d _ _ hd g2 s2.sub, fun σ3 H3 => ∃ m', m' < l.length - i ∧ m' = l.length - (i + 1) ∧ i + 1 ≤ l.length ∧ ∃ G2 F2 e2, SIM c σ3 H3 G2 F2 e2 ∧ Step H G F H3 G2 F2 ∧ Gle G1 G2 ∧ rsB c Ex H G F (runFor t one (exs C b) (l.drop (i + 1)) e2) D,
        fun _ _ z => z, fun v H' y => ?_⟩
      obtain ⟨G', gr, rv⟩ := itr.yld i d _ _ v H' hd g2 s2.sub y
      obtain ⟨s3, st3, _, _⟩ := s2.grow gr
      simp only [List.append_nil] at st3
      rw [app_len hd] at q
      simp only [runFor] at q
      cases hst : setT t one d e2 with
      | none => rw [hst] at q; exact q.elim
      | some e3 =>
        rw [hst] at q
        dsimp only at q
        refine gT_ok rv s3 hst fun σ4 F4 s4 mem off => ⟨G', F4, e3, s4, ?_⟩
        have st4 : Step H G F H' G' F4 := (st2.trans st3).less mem
        revert q
        cases exs C b e3 with
        | nx e4 => exact fun q σ5 H5 G5 F5 s5 st5 => ⟨_, by omega, rfl, hlt, G5, F5, e4, s5, st4.trans st5, (g2.trans gr.gle).trans st5.gle, q⟩
        | ct e4 => exact fun q σ5 H5 G5 F5 s5 st5 => ⟨_, by omega, rfl, hlt, G5, F5, e4, s5, st4.trans st5, (g2.trans gr.gle).trans st5.gle, q⟩
        | bk e4 => exact fun q σ5 H5 G5 F5 s5 st5 => q σ5 H5 G5 F5 s5 (st4.trans st5)
        | rt od e4 => exact fun q v H5 G5 Fr sb st5 => q v H5 G5 Fr sb (st4.trans st5)
        | exc k e4 => exact fun q H5 G5 sb st5 => q H5 G5 sb (st4.trans st5)
        | bad => exact fun q => q
  · cases h
theorem ROL.setS {H G : Hp} {d : D} {v : V} (r : RS c G d v) : ∀ {l : List OD} {xs : List V} {F : List Addr} (n : Nat), ROL c H G l xs F → ∃ F', F'.Sublist F ∧ ROL c H G (l.set n (.s d)) (xs.set n v) F'
  | [], xs, F, n, h => by
    simp only [ROL] at h
    obtain ⟨rfl, rfl⟩ := h
    exact ⟨[], List.Sublist.refl _, by simp [ROL]⟩
  | o :: l, xs, F, 0, h => by
    simp only [ROL] at h
    obtain ⟨x, r', F1, F2, rfl, rfl, p, q⟩ := h
    exact ⟨F2, List.sublist_append_right _ _, by simp only [List.set_cons_zero, ROL]; exact ⟨v, r', [], F2, rfl, rfl, by simp only [RO]; exact ⟨r, trivial⟩, q⟩⟩
  | o :: l, xs, F, n + 1, h => by
    simp only [ROL] at h
    obtain ⟨x, r', F1, F2, rfl, rfl, p, q⟩ := h
    obtain ⟨F3, m, z⟩ := ROL.setS r n q
    exact ⟨F1 ++ F3, List.Sublist.append (List.Sublist.refl _) m, by simp only [List.set_cons_succ, ROL]; exact ⟨x, _, F1, F3, rfl, rfl, p, z⟩⟩
theorem ps_setI (K : Ctx M c Ex N sc true lvl X) (W : CallOk M c C lvl fn np) {i : Nat} {k a : ME} {x : Stmt} (h : mSetI N sc i (fun y => mE fn N k sc y) (fun y => mE fn N a sc y) x = true) : PS X x (rsX c Ex (ex C (.setI i k a))) := by
  unfold mSetI at h
  split at h
  · rename_i y py kx spos v pos
    simp only [Bool.and_eq_true] at h
    obtain ⟨⟨⟨⟨h1, h2⟩, h5⟩, h3⟩, h4⟩ := h
    have gk := sound_E (Ex := Ex) W k K h3
    have g := sound_E (Ex := Ex) W a K h4
    have hsw : swapsWithSole [.Subscript (.Name y py) kx spos] v pos.line X.env = pure false := by
      show swapsWith v (some (.Subscript (.Name y py) kx spos)) pos.line X.env = pure false
      by_cases hl : noLc v = true
      · exact noSw hl h4
      · cases v <;> first | exact absurd rfl hl | rfl
    refine PS.weak (ps_asg g.S (pg_sub (pe_name K h1) gk.S set_list (by intro _; cases kx with | Slice => cases h5 | _ => rfl)) hsw rfl rfl) fun D σ H q => ?_
    obtain ⟨G, F, e, s, q⟩ := q
    simp only [ex] at q
    refine (rs_at (rep1 := repS c) s Step.refl q).imp fun z H1 q => ?_
    obtain ⟨G1, F1, Fr1, e1, od, s1, g1, st1, ⟨rfl, rp1⟩, nd1, fr1, q⟩ := q
    simp only [List.append_nil] at st1
    split at q
    · rename_i ho
      obtain ⟨l, ho⟩ := isOl_some ho
      obtain ⟨w, Fa, Fi, Fb, e3, _, ro, _⟩ := s1.ren.get ho
      refine ⟨w, e3, (rs_at (rep1 := repS c) s1 st1 q).imp fun zk H2 q => ?_⟩
      obtain ⟨G2, F2, Fr2, e4, kd, s2, g2, st2, ⟨rfl, rp2⟩, nd2, fr2, q⟩ := q
      split at q
      · rename_i x hx
        split at q
        · rename_i x' hx'
          unfold setItemO at hx'
          split at hx'
          · rename_i l2 j hk
            obtain ⟨p, xs2, F3, e5, hp2, rl2, n1, n2, nf, put⟩ := s2.mutate st2 nd2 fr2 hx
            rw [e3] at e5
            cases e5
            rw [hk] at rp2
            simp only [RS] at rp2
            cases hj : ixN l2.length j with
            | none => rw [hj] at hx'; cases hx'
            | some n =>
              rw [hj] at hx'
              cases hx'
              refine ⟨p, xs2, j, n, rfl, rp2, hp2, by rw [← hj, rl2.len], ?_⟩
              obtain ⟨F4, mem4, rl4⟩ := (ROL.mono (Gle.refl _) (agree_upd (o := .lst (xs2.set n z)) n1) rl2).setS (RS.mono g2.gle rp1) n
              obtain ⟨F5, s5, st5⟩ := put _ _ F4 rl4 (fun a h => List.mem_append_left _ (mem4.subset h)) (mem4.nodup (List.nodup_append.mp nf).1)
              exact q _ _ _ _ s5 st5
          · cases hx'
        · exact q.elim
      · exact q.elim
    · exact q.elim
  · cases h
theorem takes_len {W : WX} (tk : L2N.Takes X W) : L2N.Takes X (fun cls d _ H => ∀ σ : L2.St, σ.length = X.N.length → W cls d σ H) := fun u s' ⟨a, B, sI, pins, σ, H, cls, d, e, I, nb, up, sky, na, os, ag, w⟩ =>
  tk u s' ⟨a, B, sI, pins, σ, H, cls, d, e, I, nb, up, sky, na, os, ag, w σ I.len⟩
theorem hsm_of : ∀ {h : HB}, hsmallB h = true → hsmall h
  | .isc _, _ => trivial
  | .ist xs, h => by simp only [hsmallB, decide_eq_true_eq] at h; exact h
  | .not1 a, h => hsm_of (h := a) h
  | .and2 a b, h => by simp only [hsmallB, Bool.and_eq_true] at h; exact ⟨hsm_of h.1, hsm_of h.2⟩
  | .or2 a b, h => by simp only [hsmallB, Bool.and_eq_true] at h; exact ⟨hsm_of h.1, hsm_of h.2⟩
theorem hssm_of : ∀ {h : HS}, hssmallB h = true → hssmall h
  | .ifR c _ l, h => by simp only [hssmallB, Bool.and_eq_true] at h; exact ⟨hsm_of h.1, hssm_of h.2⟩
  | .retB b, h => hsm_of (h := b) h
  | .retC _, _ => trivial
  | .retW _ _, _ => trivial
theorem try_ok (W : CallOk M c C lvl fn np) (K : Ctx M c Ex N sc true lvl X) {b : MSs} {js : List Nat} {h : HS} {i : Nat} {r : List Stmt → Bool} (hr : ∀ {Ex' : XK} {X' : Cx}, Ctx M c Ex' N sc true lvl X' → ∀ xs, r xs = true → PSs X' xs (rsX c Ex' (exs C b))) {st : Stmt}
    (hm0 : mTry fn N sc i js h r st = true) : PS X st (rsX c Ex (ex C (.tryR b i js h))) := by
  unfold mTry at hm0
  split at hm0
  case h_2 => cases hm0
  rename_i body x np' e b₀ suite pos' pos
  simp only [Bool.and_eq_true, decide_eq_true_eq, Bool.not_eq_true', List.all_eq_true] at hm0
  obtain ⟨⟨⟨⟨⟨⟨⟨⟨⟨⟨hb, hx0⟩, hx⟩, hc0⟩, hi⟩, hloc⟩, hde⟩, hcd⟩, hjs⟩, hsm⟩, hh⟩ := hm0
  have hsm := hssm_of hsm
  have hxd : (x == ("__debug__" : Str)) = false := by rw [hx0]; decide +kernel
  have hm : M.mg x = some (.ref (c.cl 0)) := (W.cs 0 x hc0).gC
  have hcl : ∀ j ∈ js, ∃ y, fn.c j = some y := fun j hj => Option.isSome_iff_exists.mp (hjs j hj).1
  have hem : ∀ j ∈ js, PySem.W.exmOne M.K (.ref (c.cl j)) (.ref (c.cl 0)) = some true := fun j hj => by obtain ⟨y, hy⟩ := hcl j hj; exact (W.xc j y hy).2
  have hec : ∀ j ∈ js, ExcC M.K (c.cl j) := fun j hj => by obtain ⟨y, hy⟩ := hcl j hj; exact (W.xc j y hy).1
  have hf : ∀ j ∈ js, ∀ y ∈ hsnames h, HFact M.K M.mg (c.cl j) y (relE j y) := fun j hj y hy => W.hf j y ((hjs j hj).2 y hy)
  have hln : X.env.kindOf e = some .local := by
    have := K.sc
    subst this
    exact hloc
  have hv : Vis sc e := .inl hloc
  have hK := K.k
  have hmg := K.mg
  refine PS.weak (L2N.ps_try_as (i := i) (c := .ref (c.cl 0)) (tb := fun W' => rsX c (fun cls d H => ∀ σ : L2.St, σ.length = X.N.length → W' cls d σ H) (exs C b))
    (ts := fun a cls d D σ H => ∃ j, j ∈ js ∧ cls = .ref (c.cl j) ∧ d = none ∧ tHS i a (hsev (relE j) h).v D σ H) (Wout := fun cls d _ H => Ex cls d H)
    (K.st rfl) (K.fr rfl) (by rw [K.n]; exact K.nd) (by rw [K.n]; exact hi) hln ⟨K.gl hx, hxd, .inl (by rw [hmg]; exact hm)⟩ K.tk (fun W' pn xe tk po => ?_) (fun a oe cls d pn hn hfd => ?_)) fun D σ H q => ?_
  · exact hr (X' := X.tr pn xe) (Ex' := fun cls d H => ∀ σ : L2.St, σ.length = X.N.length → W' cls d σ H) ⟨K.p, K.w, K.k, K.mg, K.base, K.ck, K.n, K.nd, K.sc, K.calm, K.room, K.fn, K.st, K.fr, po, takes_len (X := X.tr pn xe) tk, K.bl, K.tab⟩ _ hb
  · refine ⟨fun pins s σ H D I q => ?_⟩
    obtain ⟨j, hj, rfl, rfl, q⟩ := q
    have hz : Zc (.ref (c.cl j)) none oe := hn.zc
    have k := hs_ok (fn := fn) (P := fun z => fn.h j z = true) (a := a) (pn := pn) (X := X) (D := c.cl j) (r := relE j) (sc := sc) (e := e) (i := i) hn (K.room.mono (by omega)) (fun hE f x wd hw => by
      obtain ⟨a, fd, ps, h1, h2, h3, h4⟩ := W.hw f x wd hw
      obtain ⟨y, hy⟩ := hcl j hj
      have p1 := K.p
      have p2 := K.w
      have p5 := K.base
      exact ⟨a, fd, ps, by rw [hmg]; exact h1, by rw [hK]; exact h2, by rw [hK]; exact h3, by rw [p1, p2, hK, hmg, p5]; exact h4 j y hy hE⟩) (by rw [hK]; exact hec j hj) hz hfd K.sc (by rw [K.n]; exact hi) (by rw [K.sc]; exact hv) hde hcd (by rw [hmg]; exact K.bl _ (by decide +kernel)) h _ hh hsm (by rw [hK, hmg]; exact hf j hj) (hjs j hj).2
    exact k.run pins s σ H D I q
  · obtain ⟨G, F, e0, s, q⟩ := q
    refine ⟨G, F, e0, s, ?_⟩
    revert q
    simp only [ex]
    cases exs C b e0 with
    | nx e1 => exact fun q => q
    | bk e1 => exact fun q => q
    | ct e1 => exact fun q => q
    | rt od e1 => exact fun q => q
    | bad => exact fun q => q
    | exc j e1 =>
      intro q
      dsimp only at q
      split at q
      · rename_i hj
        intro H1 G1 sb st σ1 hl
        refine ⟨true, by rw [hK]; exact hem j hj, fun _ a ha => ⟨j, hj, rfl, rfl, ?_, fun H2 x2 => ?_⟩, fun z => by cases z⟩
        · have : i < σ1.length := by rw [hl, K.n]; exact (List.getElem?_eq_some_iff.mp hi).1
          rw [List.getElem?_set_self this]
        · refine q _ H2 G1 [] (fun b o g => ?_) ⟨fun b o hb hn hF hG => x2 _ _ (st.keep b o hb hn hF hG), fun b hb => ?_, st.gle, st.fF, st.fG⟩ ?_ List.nodup_nil (fun _ z => by cases z)
          · rcases sb b o g with ⟨z, zn⟩ | ⟨z, ob, z2⟩ | ⟨q0, z, ps0, z1, z2, z3⟩
            · exact .inl ⟨x2 _ _ z, zn⟩
            · exact .inr (.inl ⟨z, ob, x2 _ _ z2⟩)
            · exact .inr (.inr ⟨q0, z, ps0, x2 _ _ z1, z2, z3⟩)
          · cases hz : H1 b with
            | none => exact absurd hz (st.some b hb)
            | some o => rw [x2 _ _ hz]; exact fun z => by cases z
          · cases hsev (relE j) h <;> simp only [RO, RS, HC.v, HC.d] <;> exact ⟨trivial, trivial⟩
      · exact q.elim
mutual
theorem sound_S (W : CallOk M c C lvl fn np) : ∀ (s : MS) {Ex : XK} {X : Cx} (K : Ctx M c Ex N sc true lvl X) {x : Stmt}, mS fn N sc s x = true → PS X x (rsX c Ex (ex C s))
  | .asg i a, _, _, K, x, h => by simp only [mS] at h; exact ps_setT K W h
  | .asgT is a, _, _, K, x, h => by simp only [mS] at h; exact ps_asgT' K W h
  | .exp a, _, _, K, x, h => by simp only [mS] at h; exact ps_expT K W h
  | .app sl i a, _, _, K, x, h => by simp only [mS] at h; exact ps_app K W h
  | .ext i a, _, _, K, x, h => by simp only [mS] at h; exact ps_extT K W h
  | .setI i k a, _, _, K, x, h => by simp only [mS] at h; exact ps_setI K W h
  | .rev i, _, _, K, x, h => by simp only [mS] at h; exact ps_revT K h
  | .setD i k a, _, _, K, x, h => by simp only [mS] at h; exact ps_setD K W h
  | .setDT i k a, _, _, K, x, h => by simp only [mS] at h; exact ps_setDT K W h
  | .setDN i k, _, _, K, x, h => by simp only [mS] at h; exact ps_setDN K W h
  | .setDD i j1 j2 a, _, _, K, x, h => by simp only [mS] at h; exact ps_setDD K W h
  | .aug i a, _, _, K, x, h => by simp only [mS] at h; exact ps_augT K W h
  | .ifs d a b, _, _, K, x, h => by simp only [mS] at h; exact ps_ifT K W (fun xs q => sound_Ss W a K q) (fun xs q => sound_Ss W b K q) h
  | .whl n d b, _, _, K, x, h => by simp only [mS] at h; exact ps_whlT K W (fun xs q => sound_Ss W b K q) h
  | .for_ t one it b, _, _, K, x, h => by simp only [mS] at h; exact ps_forT K W (fun xs q => sound_Ss W b K q) h
  | .ret a, _, _, K, x, h => by simp only [mS] at h; exact ps_retT K W h
  | .retL f a g js, _, _, K, x, h => by simp only [mS] at h; exact ps_retL K W h
  | .retN, _, _, K, x, h => by
    simp only [mS, mKw] at h
    split at h <;> first | cases h | skip
    refine PS.weak ps_retN fun D σ H q => ?_
    obtain ⟨G, F, e, s, q⟩ := q
    exact q _ H G [] s.sub (Step.refl.less fun _ z => by cases z) (by simp only [RO, RS]; exact ⟨trivial, trivial⟩) List.nodup_nil (fun _ z => by cases z)
  | .brk, _, _, K, x, h => by
    simp only [mS, mKw] at h
    split at h <;> first | cases h | skip
    refine PS.weak ps_break fun D σ H q => ?_
    obtain ⟨G, F, e, s, q⟩ := q
    exact q _ _ _ _ s Step.refl
  | .cnt, _, _, K, x, h => by
    simp only [mS, mKw] at h
    split at h <;> first | cases h | skip
    refine PS.weak ps_continue fun D σ H q => ?_
    obtain ⟨G, F, e, s, q⟩ := q
    exact q _ _ _ _ s Step.refl
  | .pas, _, _, K, x, h => by
    simp only [mS, mKw] at h
    split at h <;> first | cases h | skip
    refine PS.weak ps_pass fun D σ H q => ?_
    obtain ⟨G, F, e, s, q⟩ := q
    exact q _ _ _ _ s Step.refl
  | .rai k, _, _, K, x, h => by
    simp only [mS, mRai] at h
    split at h
    · simp only [Bool.and_eq_true, decide_eq_true_eq, Bool.not_eq_true'] at h
      obtain ⟨⟨hg, hc⟩, hd⟩ := h
      obtain ⟨⟨B, nI, iI, bm, F, q⟩, g, kC, s1, t1⟩ := W.cs k _ hc
      refine PS.weak (L2N.ps_raise K.calm K.tk (L2N.pmk_own F (by rw [K.k]; exact q) (by rw [K.mg]; exact g) (by rw [K.k]; exact kC) (raises_own (by rw [K.k]; exact s1) (by rw [K.k]; exact t1)) (K.gl hg) hd)) fun D σ H q => ?_
      obtain ⟨G, F, e, s, q⟩ := q
      exact q H G s.sub (Step.refl.less fun _ z => by cases z)
    · cases h
  | .tryR b i js hh, _, _, K, x, h => by
    simp only [mS] at h
    exact try_ok W K (fun K' xs q => sound_Ss W b K' q) h
  | .nev, _, _, K, x, h => PS.weak ps_never fun D σ H q => by
    obtain ⟨G, F, e, s, q⟩ := q
    exact q
theorem sound_Ss (W : CallOk M c C lvl fn np) : ∀ (l : MSs) {Ex : XK} {X : Cx} (K : Ctx M c Ex N sc true lvl X) {xs : List Stmt}, mSs fn N sc l xs = true → PSs X xs (rsX c Ex (exs C l))
  | .nil, _, _, K, xs, h => by
    simp only [mSs] at h
    cases xs with
    | nil =>
      refine PSs.weak pss_nil fun D σ H q => ?_
      obtain ⟨G, F, e, s, q⟩ := q
      exact q _ _ _ _ s Step.refl
    | cons => cases h
  | .defC j f a g js, _, _, K, xs, h => by simp only [mSs] at h; exact ps_defC K W h
  | .cons s l, _, _, K, xs, h => by
    simp only [mSs] at h
    cases xs with
    | nil => cases h
    | cons x xs =>
      simp only [Bool.and_eq_true] at h
      refine PSs.weak (pss_cons (sound_S W s K h.1) (sound_Ss W l K h.2)) fun D σ H q => ?_
      obtain ⟨G, F, e, sm, q⟩ := q
      refine ⟨G, F, e, sm, ?_⟩
      simp only [exs] at q
      revert q
      cases ex C s e with
      | nx e1 => exact fun q σ1 H1 G1 F1 s1 st1 => rs_go s1 st1 q
      | bk e1 => exact fun q => q
      | ct e1 => exact fun q => q
      | rt od e1 => exact fun q => q
      | exc k e1 => exact fun q => q
      | bad => exact fun q => q
end
end
end MW
namespace MW
open L2 PyProof.Rows PySem.Spec PySem
/-! ### the made functions' texts -/
/-- one of them: its full name, its name, its parameters, what it captures, all its names -/
structure CloD where
  q : Str
  nm : Str
  ps : List Str
  fr : List Str
  N : List Str
/-- plain parameters, without defaults or annotations -/
def argsB (ps : List Str) : Arguments → Bool
  | ⟨[], as, none, [], [], none, []⟩ => decide (as.map (·.arg) = ps) && as.all fun a => a.annotation.isNone
  | _ => false
/-- what is free in the function is a cell of the def that makes it -/
def capB (sc scope : Scope) (fr : List Str) : Bool := (scope.names.all fun y => !decide (y.2 = .free) || decide (sc.names.lookup y.1 = some .cell)) && fr.all fun y => decide ((y, NameKind.free) ∈ scope.names)
def lamB (fn : Nm) (d : CloD) (F : Fn) (sc : Scope) : Expr → Bool
  | .Lambda params body scope _ => decide (d.nm = ("<lambda>" : Str)) && argsB d.ps params && NdefX.nscB d.N d.ps d.fr scope && capB sc scope d.fr && decide (F.np = d.ps.length + d.fr.length) && decide (F.ns = d.N.length) && (match F.body with
    | .cons (.ret a) .nil => mE fn d.N a scope body
    | _ => false)
  | _ => false
def ndfB (fn : Nm) (d : CloD) (F : Fn) (sc : Scope) : Stmt → Bool
  | .FunctionDef name params body [] none [] scope none bind _ => decide (name = d.nm) && decide (bind = d.nm) && argsB d.ps params && NdefX.nscB d.N d.ps d.fr scope && capB sc scope d.fr && decide (F.np = d.ps.length + d.fr.length) && decide (F.ns = d.N.length) && mSs fn d.N scope F.body body
  | _ => false
/-- the names, with the functions that are made -/
def mkFn (fn : Nm) (cd : Nat → Option CloD) (T : Nat → Option Fn) : Nm := { fn with
  li := fun g => (cd g).map fun d => (d.q, d.nm, d.fr)
  le := fun g sc z => match cd g, T g with
    | some d, some F => lamB fn d F sc z
    | _, _ => false
  de := fun g sc z => match cd g, T g with
    | some d, some F => ndfB fn d F sc z
    | _, _ => false }
theorem argsB_eq {ps : List Str} {a : Arguments} (h : argsB ps a = true) : ∃ as : List Arg, a = ⟨[], as, none, [], [], none, []⟩ ∧ as.map (·.arg) = ps ∧ ∀ x ∈ as, x.annotation = none := by
  unfold argsB at h
  split at h
  · simp only [Bool.and_eq_true, decide_eq_true_eq, List.all_eq_true, Option.isNone_iff_eq_none] at h
    exact ⟨_, rfl, h.1, h.2⟩
  · cases h
theorem capB_eq {sc scope : Scope} {fr : List Str} (h : capB sc scope fr = true) : (∀ y ∈ scope.names, y.2 = .free → sc.names.lookup y.1 = some .cell) ∧ ∀ y ∈ fr, (y, NameKind.free) ∈ scope.names := by
  unfold capB at h
  simp only [Bool.and_eq_true, Bool.or_eq_true, Bool.not_eq_true', decide_eq_true_eq, decide_eq_false_iff_not, List.all_eq_true] at h
  exact ⟨fun y hy e => (h.1 y hy).elim (fun z => absurd e z) id, h.2⟩
theorem lookup_zip : ∀ {ps : List Str} {us : List Value}, ps.Nodup → us.length = ps.length → ∀ n ∈ ps, ((ps.zip us).lookup n).isSome = true
  | [], _, _, _, n, h => by cases h
  | p :: ps, [], _, hl, n, h => by simp at hl
  | p :: ps, u :: us, nd, hl, n, h => by
    rw [List.zip_cons_cons, List.lookup_cons]
    by_cases e : n = p
    · subst e; simp
    · have : (n == p) = false := by simp [e]
      rw [this]
      exact lookup_zip (List.nodup_cons.mp nd).2 (by simpa using hl) n (by simpa [e] using h)
theorem fm_congr {α β : Type} {f g : α → Option β} : ∀ {l : List α}, (∀ n ∈ l, f n = g n) → l.filterMap f = l.filterMap g
  | [], _ => rfl
  | a :: l, h => by
    rw [List.filterMap_cons, List.filterMap_cons, h a (List.mem_cons_self ..), fm_congr fun n hn => h n (List.mem_cons_of_mem _ hn)]
theorem filterMap_zip : ∀ {ps : List Str} {us : List Value}, ps.Nodup → us.length = ps.length → (ps.filterMap fun n => ((ps.zip us).lookup n).map (n, ·)) = ps.zip us
  | [], [], _, _ => rfl
  | [], _ :: _, _, h => by simp at h
  | p :: ps, [], _, h => by simp at h
  | p :: ps, u :: us, nd, hl => by
    have nd' := List.nodup_cons.mp nd
    rw [List.zip_cons_cons, List.filterMap_cons, List.lookup_cons]
    simp only [beq_self_eq_true, Option.map_some]
    congr 1
    refine (fm_congr fun n hn => ?_).trans (filterMap_zip nd'.2 (by simpa using hl))
    have : (n == p) = false := by
      simp only [beq_eq_false_iff_ne, ne_eq]
      rintro rfl
      exact nd'.1 hn
    rw [List.lookup_cons, this]
theorem bind_simple {fd : FuncData} {as : List Arg} {ps : List Str} (hp : fd.params = ⟨[], as, none, [], [], none, []⟩) (hn : as.map (·.arg) = ps) (nd : ps.Nodup) (hd : fd.defaults = .none) {us : List Value} (hl : us.length = ps.length) : bindArgs fd ⟨us, []⟩ = pure (ps.zip us) := by
  have h1 : ∀ n ∈ ps, ((ps.zip us).lookup n).isNone = false := fun n hn => by
    have := lookup_zip nd hl n hn
    cases h : (ps.zip us).lookup n with
    | none => rw [h] at this; cases this
    | some v => rfl
  have h2 : ps.filter (fun n => ((ps.zip us).lookup n).isNone) = [] := by
    rw [List.filter_eq_nil_iff]
    intro n hn
    rw [h1 n hn]
    exact Bool.false_ne_true
  have hdef : seqItems? Value.none = pure none := rfl
  have h3 := filterMap_zip nd hl
  unfold bindArgs
  simp only [hp, hd, hn, hdef, List.map_nil, List.nil_append, List.append_nil, hl]
  have pb : ∀ {α β : Type} (a : α) (f : α → Sem β), (pure a >>= f) = f a := fun _ _ => rfl
  have e0 : ((none : Option (Array Value)).getD #[]).toList = [] := rfl
  simp only [List.forIn_nil, pb, e0, List.length_nil, Nat.zero_sub, Nat.sub_zero, List.drop_nil, List.take_length, h2, List.zip_nil_right, h3, gt_iff_lt, Nat.lt_irrefl, decide_false, Bool.false_and, Bool.false_eq_true, if_false, List.isEmpty_nil, Bool.not_true]
section
open LamX NdefX
variable {c : RC} {M : Mo} {fn fn0 : Nm} {T : Nat → Option Fn} {np : Nat → Nat} {cd : Nat → Option CloD}
theorem REnv.nones {H G : Hp} (m : Marks c G) : ∀ (n : Nat), REnv c H G (List.replicate n none) (List.replicate n none) []
  | 0 => by simp only [List.replicate_zero, REnv]; exact ⟨trivial, trivial, m⟩
  | n + 1 => by
    simp only [List.replicate_succ, REnv]
    exact ⟨none, _, rfl, REnv.nones m n⟩
theorem REnv.start {H G : Hp} (m : Marks c G) (n : Nat) : ∀ {ods : List OD} {vs : List V} {F : List Addr}, ROL c H G ods vs F → REnv c H G (ods.map some ++ List.replicate n none) (vs.map some ++ List.replicate n none) F
  | [], vs, F, h => by
    simp only [ROL] at h
    obtain ⟨rfl, rfl⟩ := h
    exact REnv.nones m n
  | d :: l, vs, F, h => by
    simp only [ROL] at h
    obtain ⟨x, r, F1, F2, rfl, rfl, p, q⟩ := h
    simp only [List.map_cons, List.cons_append, REnv]
    exact ⟨x, _, F1, F2, rfl, rfl, p, REnv.start m n q⟩
/-- the context of a made function's body -/
theorem ctx_ofN {N ps fr : List Str} {F : NF} {f : Addr} {A : Around} {outer : List PySem.Env} {s : Shared} {H : Hp} {E : XK} {lvl : Nat} (S : NScope N ps fr F.scope) (hr : Room (lvl + 1) (A.deeper (envF F f s.heap.objs.size))) (hc : c.K = M.K) (bl : ∀ x, x ∈ bltNames → M.mg x = none) (ht : ∀ p ∈ c.tabs, p.2.1 ∉ N) :
    Ctx M c E N F.scope true lvl (ncx (L2N.CX M.P M.w) M.P M.w M.K M.mg M.base N F f A outer s H E) :=
  ⟨rfl, rfl, rfl, rfl, rfl, hc, rfl, S.nd, rfl, rfl, hr, fun _ x => .inr fun z => S.nocell _ (PySem.mem_of_lookup z) rfl, fun _ => rfl, fun _ => rfl, passes_of rfl, L2N.takes_of rfl rfl rfl rfl, bl, fun _ P q nm hm hq => absurd hq (ht _ hm)⟩
theorem ann_none : ∀ {as : List Arg} {env : PySem.Env}, (∀ x ∈ as, x.annotation = none) → annotationsOf as env = []
  | [], _, _ => rfl
  | ⟨a, an, p⟩ :: as, env, h => by
    have h1 : an = none := h _ (List.mem_cons_self ..)
    subst h1
    exact ann_none (as := as) fun x hx => h x (List.mem_cons_of_mem _ hx)
theorem lam_fact {g : Nat} {sc : Scope} {z : Expr} (h : (mkFn fn0 cd T).le g sc z = true) : LamFact (mkFn fn0 cd T) g sc z := by
  simp only [mkFn] at h
  split at h
  · rename_i d F hd hF
    unfold lamB at h
    split at h
    · rename_i params body scope pos
      simp only [Bool.and_eq_true, decide_eq_true_eq] at h
      obtain ⟨⟨⟨⟨⟨⟨h1, h2⟩, h3⟩, h4⟩, h5⟩, h6⟩, h7⟩ := h
      obtain ⟨as, rfl, e2, _⟩ := argsB_eq h2
      obtain ⟨c1, c2⟩ := capB_eq h4
      refine ⟨_, body, scope, pos, d.q, d.fr, rfl, ?_, fun env => rfl, c1, c2⟩
      simp only [mkFn, hd, Option.map_some, h1]
    · cases h
  · cases h
theorem def_in {g : Nat} {sc : Scope} {z : Stmt} (h : (mkFn fn0 cd T).de g sc z = true) : DefIn (mkFn fn0 cd T) g sc z := by
  simp only [mkFn] at h
  split at h
  · rename_i d F hd hF
    unfold ndfB at h
    split at h
    · rename_i name params body scope bind pos
      simp only [Bool.and_eq_true, decide_eq_true_eq] at h
      obtain ⟨⟨⟨⟨⟨⟨⟨h0, h1⟩, h2⟩, h3⟩, h4⟩, h5⟩, h6⟩, h7⟩ := h
      subst h0
      subst h1
      obtain ⟨as, rfl, e2, e3⟩ := argsB_eq h2
      obtain ⟨c1, c2⟩ := capB_eq h4
      refine ⟨_, pos, d.q, d.fr, rfl, ?_, rfl, rfl, fun env => ?_, c1, c2⟩
      · simp only [mkFn, hd, Option.map_some]
      · show annotationsOf (as ++ [] ++ [] ++ [] ++ []) env ++ [] = []
        simp only [List.append_nil]
        exact ann_none e3
    · cases h
  · cases h
/-- what such a call asks, said of its body's beginning -/
theorem clo_start {d : Nat} {g : Nat} {F : Fn} {vs : List V} {H : Hp} {Q : VK} {E : XK} (hF : T g = some F) (hg : c.clo.g = g) (hnp : F.np = np g) {N ps fr : List Str} (h1 : F.np = ps.length + fr.length) (h2 : F.ns = N.length) (hle : F.np ≤ F.ns) (hlen : c.clo.vs.length = fr.length) (h : spK c (evF T (d + 1)) vs H Q E) :
    vs.length = ps.length ∧ ∃ G Fr e, SIM c (startF N vs (c.clo.vs.map some)) H G Fr e ∧ match exs (evF T d) F.body e with
      | .nx _ => ∀ v H' G' F', Step H G Fr H' G' F' → Sub G' H' → RO c H' G' (.s .non) v F' → F'.Nodup → (∀ a ∈ F', G' a = none) → Q v H'
      | .rt r _ => ∀ v H' G' F', Step H G Fr H' G' F' → Sub G' H' → RO c H' G' r v F' → F'.Nodup → (∀ a ∈ F', G' a = none) → Q v H'
      | .exc k _ => ∀ H' G', Step H G Fr H' G' [] → Sub G' H' → E (.ref (c.cl k)) none H'
      | _ => False := by
  obtain ⟨G, ods, Fr, ws, sb, mk, ro, nd, gf, rw_, q⟩ := h
  rw [hg] at q
  simp only [evF_succ, hF, callF] at q
  by_cases el : (ods ++ ws.map OD.s).length = F.np
  · rw [if_pos el] at q
    have l1 := ro.len
    have l2 := rw_.len
    rw [List.length_append, List.length_map] at el
    have hv : vs.length = ps.length := by omega
    refine ⟨hv, G, Fr, (ods ++ ws.map OD.s).map some ++ List.replicate (F.ns - F.np) none, ⟨sb, ?_, nd, gf⟩, ?_⟩
    · have es : startF N vs (c.clo.vs.map some) = (vs ++ c.clo.vs).map some ++ List.replicate (F.ns - F.np) none := by
        unfold startF
        rw [List.map_append, List.append_assoc, List.length_map]
        congr 3
        omega
      rw [es]
      refine REnv.start mk _ ?_
      have := ROL.append ro (ROL_s.mpr ⟨rw_, rfl⟩)
      rwa [List.append_nil] at this
    · revert q
      cases exs (evF T d) F.body ((ods ++ ws.map OD.s).map some ++ List.replicate (F.ns - F.np) none) with
      | nx e => exact fun q => q
      | rt r e => exact fun q => q
      | exc k e => exact fun q => q
      | bk e => exact fun q => q
      | ct e => exact fun q => q
      | bad => exact fun q => q
  · rw [if_neg el] at q
    exact q.elim
theorem cells_base {base : Heap} {cl : List (Str × Addr)} {fr : List Str} {vs : List V} {K : PySem.W.Frag} {P : Program} {w : World} {mg : Str → Option Value} {A : Around} {outer : List PySem.Env} {s : Shared} {H : Hp} (C : CellsB base cl fr vs) (e0 : Env0 P w K mg base A outer s H) : CellsAt cl fr (vs.map some) s.heap H := by
  have key : ∀ {a v}, base.IsCell a v → s.heap.IsCell a v := fun {a v} ⟨o, h1, h2⟩ => ⟨o, (e0.bs _ _ h1).1, h2⟩
  refine ⟨by rw [List.length_map]; exact C.len, fun y a h => ?_, C.inj, fun i y h => ?_⟩
  · obtain ⟨v, o, h1, h2⟩ := C.all y a h
    exact ⟨(e0.bs _ _ h1).2, v, o, (e0.bs _ _ h1).1, h2⟩
  · obtain ⟨a, h1, h2⟩ := C.has i y h
    refine ⟨a, h1, fun v hv => ?_⟩
    rw [List.getElem?_map, Option.map_eq_some_iff] at hv
    obtain ⟨v', h3, h4⟩ := hv
    cases h4
    obtain ⟨u, h5, h6⟩ := h2 v h3
    exact ⟨u, h5, key h6⟩
/-- the run of a made function -/
theorem clo_run (hc : c.K = M.K) (bl : ∀ x, x ∈ bltNames → M.mg x = none) {lvl d : Nat} (W : CallOk M c (evF T d) lvl fn0 np) (hT : ∀ f F, T f = some F → F.np = np f) (ht : ∀ g dd, cd g = some dd → ∀ p ∈ c.tabs, p.2.1 ∉ dd.N)
    (kb : CloB (mkFn fn0 cd T) M.base c.clo) (on : c.clo.on = true) {A : Around} {outer : List PySem.Env} {s : Shared} {H : Hp} {us : List Value} {vs : List V} {Q : VK} {E : XK} (hr : Room (lvl + 2) A) (e0 : Env0 M.P M.w M.K M.mg M.base A outer s H)
    (hf : H c.clo.f = some (.ext c.clo.fo)) (hco : H c.clo.co = some (LamX.CodeO c.clo.co c.clo.q)) (rv : Vals vs us) (sp : spK c (evF T (d + 1)) vs H Q E) :
    codeAny (model M.P M.w) A (.call (.ref c.clo.f) ⟨us, []⟩) (CR (L2N.CX M.P M.w) outer M.P M.w H s Q E) s := by
  obtain ⟨q, nm, fr, sc, cl, hli, hq, cb, alt⟩ := kb on
  have cat := cells_base cb e0
  have lim : s.heap.NoLimit := e0.mod.nolimit.keeps fun b o e => (e0.bs b o e).1
  rcases alt with ⟨params, body, scope, pos, hle, hfo⟩ | ⟨st, hde, hfo⟩
  · simp only [mkFn] at hle hli
    split at hle
    · rename_i dd F hd hF
      rw [hd] at hli
      simp only [Option.map_some, Option.some.injEq, Prod.mk.injEq] at hli
      obtain ⟨z1, z2, z3⟩ := hli
      unfold lamB at hle
      simp only [Bool.and_eq_true, decide_eq_true_eq] at hle
      obtain ⟨⟨⟨⟨⟨⟨h1, h2⟩, h3⟩, h4⟩, h5⟩, h6⟩, h7⟩ := hle
      split at h7
      · rename_i a hbody
        rw [z3] at h3 h5
        have S := nscope_by h3
        obtain ⟨as, hp, e2, _⟩ := argsB_eq h2
        have hpl : dd.ps.length + fr.length ≤ dd.N.length := by
          have q := congrArg List.length S.pre
          rw [List.length_take, List.length_append] at q
          omega
        obtain ⟨hl, G, Fr, e, sim, fin⟩ := clo_start (ps := dd.ps) (fr := fr) (N := dd.N) hF rfl (hT _ _ hF) h5 h6 (by omega) cb.len sp
        have hobj := (e0.hok _ _ hf).1
        rw [hfo] at hobj
        obtain ⟨pm, ctv, of1⟩ := hobj
        obtain ⟨⟨oc, cvs, t, hoc, hdc, hvc⟩, _, _⟩ := e0.hok _ _ hco
        rw [hq] at hvc
        have ndP : dd.ps.Nodup := by
          have q := S.nd.sublist (List.take_sublist (dd.ps.length + fr.length) dd.N)
          rw [S.pre] at q
          exact (List.nodup_append.mp q).1
        refine PySem.W.kla_callFunE hr.depth of1 rfl S.co S.gen rfl ⟨c.clo.co, oc, cvs, t, rfl, hoc, hdc, hvc⟩ ?_
        rw [bind_simple (as := as) (ps := dd.ps) hp e2 ndP rfl (by rw [← rv.length]; exact hl)]
        refine wpAny_pure (wpAny_newFunctionEnv S.nocell (fun ⟨n, _⟩ hy => S.par n (List.of_mem_zip hy).1) (fun h₁ hns hsb => ⟨lim.fresh _ hsb, ?_⟩) S.kind)
        show codeAny _ _ (.expr body (envF ⟨"<lambda>", q, params, [], scope, cl, c.clo.co⟩ c.clo.f s.heap.objs.size)) _ _
        have kp : ∀ b o, s.heap.get? b = some o → h₁.get? b = some o := fun b o e => hsb.extBut b o (Nat.ne_of_lt (Heap.lt_size e)) (Heap.get?_push_of_some _ e)
        have K := ctx_ofN (c := c) (M := M) (N := dd.N) (ps := dd.ps) (fr := fr) (F := ⟨"<lambda>", q, params, [], scope, cl, c.clo.co⟩) (f := c.clo.f) (A := A) (outer := outer) (s := s) (H := H) (E := E) S (lvl := lvl) (hr.deeper _) hc bl (ht _ _ hd)
        have I : Inv (ncx (L2N.CX M.P M.w) M.P M.w M.K M.mg M.base dd.N ⟨"<lambda>", q, params, [], scope, cl, c.clo.co⟩ c.clo.f A outer s H E) [] (startF dd.N vs (c.clo.vs.map some)) H { s with heap := h₁, toks := s.toks + (dd.ps.zip us).length } := inv_startN S hr.hd e0 hl rv cat hns kp
        refine PySem.W.kla_codeExpr (wpAny_mono ((sound_E W a K h7).pe.run [] _ _ H Q I ⟨G, Fr, e, sim, ?_⟩) (fun v s' hq => ?_) fun e s' hq => hq)
        · rw [hbody] at fin
          simp only [exs, ex] at fin
          revert fin
          cases ev (evF T d) a e with
          | ok od e1 => exact fun fin v H1 G1 F1 Fr1 s1 st1 ro nd fr1 => fin v H1 G1 Fr1 (st1.less fun a h => List.mem_append_right _ h) s1.sub ro (List.nodup_append.mp nd).2.1 fr1
          | exc k e1 => exact fun fin H1 G1 F1 s1 st1 => fin H1 G1 (st1.less fun _ z => by cases z) s1.sub
          | bad => exact fun fin => fin
        · obtain ⟨w', H', J', rv', q'⟩ := hq
          exact ⟨w', H', J'.os, J'.bare, J'.base, J'.hok, rv', q'⟩
      · cases h7
    · cases hle
  · simp only [mkFn] at hde hli
    split at hde
    · rename_i dd F hd hF
      rw [hd] at hli
      simp only [Option.map_some, Option.some.injEq, Prod.mk.injEq] at hli
      obtain ⟨z1, z2, z3⟩ := hli
      unfold ndfB at hde
      split at hde
      · rename_i name params body scope bind pos
        simp only [Bool.and_eq_true, decide_eq_true_eq] at hde
        obtain ⟨⟨⟨⟨⟨⟨⟨h0, h1⟩, h2⟩, h3⟩, h4⟩, h5⟩, h6⟩, h7⟩ := hde
        rw [z3] at h3 h5
        have S := nscope_by h3
        obtain ⟨as, hp, e2, _⟩ := argsB_eq h2
        have hpl : dd.ps.length + fr.length ≤ dd.N.length := by
          have q := congrArg List.length S.pre
          rw [List.length_take, List.length_append] at q
          omega
        have ndP : dd.ps.Nodup := by
          have q := S.nd.sublist (List.take_sublist (dd.ps.length + fr.length) dd.N)
          rw [S.pre] at q
          exact (List.nodup_append.mp q).1
        obtain ⟨hl, _⟩ := clo_start (ps := dd.ps) (fr := fr) (N := dd.N) hF rfl (hT _ _ hF) h5 h6 (by omega) cb.len sp
        have ok : NOk M.P M.w M.K M.mg M.base (L2N.CX M.P M.w) (lvl + 2) c.clo.f ⟨nm, q, params, body, scope, cl, c.clo.co⟩ dd.ps fr (fun ws vs H Q E => ws = c.clo.vs.map some ∧ vs.length = dd.ps.length ∧ spK c (evF T (d + 1)) vs H Q E) := by
          refine nok_of (N := dd.N) S (fun doc pm ctv us hl => bind_simple (as := as) hp e2 ndP rfl hl) (fun ws vs H Q E h => h.2.1) fun A outer s H vs ws Q E hr _ _ _ h => ?_
          obtain ⟨rfl, hl, sp⟩ := h
          obtain ⟨_, G, Fr, e, sim, fin⟩ := clo_start (ps := dd.ps) (fr := fr) (N := dd.N) hF rfl (hT _ _ hF) h5 h6 (by omega) cb.len sp
          have K := ctx_ofN (c := c) (M := M) (N := dd.N) (ps := dd.ps) (fr := fr) (F := ⟨nm, q, params, body, scope, cl, c.clo.co⟩) (f := c.clo.f) (A := A) (outer := outer) (s := s) (H := H) (E := E) S (lvl := lvl) hr hc bl (ht _ _ hd)
          refine ⟨_, sound_Ss W F.body K h7, G, Fr, e, sim, ?_⟩
          revert fin
          cases exs (evF T d) F.body e with
          | nx e => exact fun fin σ' H' G' F' s' st' => fin _ H' G' [] (st'.less fun _ z => by cases z) s'.sub (by simp only [RO, RS]; exact ⟨trivial, trivial⟩) List.nodup_nil (fun _ z => by cases z)
          | rt r e => exact fun fin v H' G' F' sb' st' rp nd' fr' => fin v H' G' F' st' sb' rp nd' fr'
          | exc k e => exact fun fin H' G' sb' st' => fin H' G' st' sb'
          | bk e => exact fun fin => fin.elim
          | ct e => exact fun fin => fin.elim
          | bad => exact fun fin => fin.elim
        rw [hfo] at hf
        rw [hq] at hco
        exact ok.run A outer s H us vs _ Q E hr e0 hf hco cat rv ⟨rfl, hl, sp⟩
      · cases hde
    · cases hde
end
end MW
namespace MW
open L2 PyProof.Rows PySem.Spec PySem
/-- a def of the module, as it stands behind the top -/
def DefFact (M : Mo) (x : Str) (st : Stmt) (ps : List Str) : Prop := ∃ a fd, Fun M.K x x st a fd ∧ M.mg x = some (.ref a) ∧ Binds M.K fd ps []
/-- where the full name of a made function is among the def's names, the def's code object has that table -/
def TabC (M : Mo) (tabs : List (Addr × Str × Str)) (N : List Str) (x : Str) : Prop := ∀ P q nm, (P, q, nm) ∈ tabs → q ∈ N → q = (x ++ (".<locals>." : Str)) ++ nm ∧ ∃ a o fd c0, M.mg x = some (.ref a) ∧ M.K.lookup a = some o ∧ o.data = .func fd ∧ fd.code = .ref c0 ∧ LamX.TabB M.base M.mg c0 P
theorem TabC.none {M : Mo} {tabs : List (Addr × Str × Str)} {N : List Str} {x : Str} (h : ∀ p ∈ tabs, p.2.1 ∉ N) : TabC M tabs N x := fun P q nm hm hq => absurd hq (h _ hm)
theorem TabC.base {M : Mo} {tabs : List (Addr × Str × Str)} {N : List Str} {x : Str} (h : TabC M tabs N x) {b : Heap} (hb : ∀ a o, M.base.get? a = some o → b.get? a = some o) : TabC { M with base := b } tabs N x := fun P q nm hm hq => by
  obtain ⟨h1, a, o, fd, c0, h2, h3, h4, h5, h6⟩ := h P q nm hm hq
  exact ⟨h1, a, o, fd, c0, h2, h3, h4, h5, h6.code.keeps hb, h6.bm.keeps hb, h6.gP⟩
/-- a def and its form as data -/
structure DefOk (M : Mo) (tabs : List (Addr × Str × Str)) (fn : Nm) (T : Nat → Option Fn) (np : Nat → Nat) (f : Nat) (x : Str) : Prop where
  ex : ∃ (F : Fn) (st : Stmt) (N ps : List Str), T f = some F ∧ DefFact M x st ps ∧ FnScope N ps (defScope st) ∧ F.np = ps.length ∧ F.ns = N.length ∧ np f = ps.length ∧ mSs fn N (defScope st) F.body (defBody st) = true ∧ TabC M tabs N x
section
variable {c : RC} {M : Mo} {fn : Nm} {T : Nat → Option Fn} {np : Nat → Nat}
theorem ctx_of {N : List Str} {qual : Str} {sc : Scope} {f : Addr} {cd : Value} {A : Around} {outer : List PySem.Env} {s : Shared} {H : Hp} {E : XK} {lvl : Nat} (hN : N.Nodup) (hr : Room (lvl + 1) (A.deeper (envOfC qual sc s.heap.objs.size f cd))) (hc : c.K = M.K) (bl : ∀ x, x ∈ bltNames → M.mg x = none) (tb : ∀ P q nm, (P, q, nm) ∈ c.tabs → q ∈ N → q = (qual ++ (".<locals>." : Str)) ++ nm ∧ ∃ c0, cd = .ref c0 ∧ LamX.TabB M.base M.mg c0 P) :
    Ctx M c E N sc true lvl (cxOf (L2N.CX M.P M.w) M.P M.w M.K M.mg M.base N qual sc f cd A outer s H E) :=
  ⟨rfl, rfl, rfl, rfl, rfl, hc, rfl, hN, rfl, rfl, hr, fun _ _ => .inl rfl, fun _ => rfl, fun _ => rfl, passes_of rfl, L2N.takes_of rfl rfl rfl rfl, bl, fun _ => tb⟩
theorem okN {P : Program} {w : World} {K : PySem.W.Frag} {mg : Str → Option Value} {base : Heap} {x : Str} {st : Stmt} {f : Addr} {fd : FuncData} {N ps : List Str} {k : Nat} {sp : Sp} (F : Fun K x x st f fd) (S : FnScope N ps (defScope st)) (ln : ∀ vs H Q E, sp vs H Q E → vs.length = ps.length)
    (hb : ∀ (cv : Value) (A : Around) (ou : List PySem.Env) (s : Shared) (H : Hp) (vs : List V) (Q : VK) (E : XK), cv = fd.code → Room k (A.deeper (envOfC x (defScope st) s.heap.objs.size f cv)) → sp vs H Q E →
      ∃ t, PSs (cxOf (L2N.CX P w) P w K mg base N x (defScope st) f cv A ou s H E) (defBody st) t ∧ t { nx := fun _ H' => Q .non H', rt := Q } (L2.start N vs) H) : FnOk P w K mg base (L2N.CX P w) (k + 1) f fd ps sp := by
  obtain ⟨oc, od, kV, dc, pm, an, cv, ct, sl, rfl, lk, cd⟩ := F.ex
  exact fn_of lk cd S ln fun A ou s H vs Q E hr hs => hb cv A ou s H vs Q E rfl hr hs
/-- the same, of a def that is handed the caught exception -/
theorem okW {P : Program} {w : World} {K : PySem.W.Frag} {mg : Str → Option Value} {base : Heap} {x : Str} {st : Stmt} {f : Addr} {fd : FuncData} {N ps : List Str} {k : Nat} {R : Addr × Obj → Sp} (F : Fun K x x st f fd) (S : FnScope N ps (defScope st)) (ln : ∀ p vs H Q E, R p vs H Q E → vs.length = ps.length)
    (hb : ∀ (cv : Value) (A : Around) (ou : List PySem.Env) (s : Shared) (H : Hp) (vs : List V) (Q : VK) (E : XK) (p : Addr × Obj), L2H.Hot1 A p → R p vs H Q E →
      ∃ t, PSs (L2H.cxH (L2N.CX P w) P w K mg base N x (defScope st) f cv A ou s H E p) (defBody st) t ∧ t { nx := fun _ H' => Q .non H', rt := Q } (L2.start N vs) H) : FnW P w K mg base (L2N.CX P w) (k + 1) f fd ps R := by
  obtain ⟨oc, od, kV, dc, pm, an, cv, ct, sl, rfl, lk, cd⟩ := F.ex
  exact fn_ofW lk cd S ln fun A ou s H vs Q E p hot _ hs => hb cv A ou s H vs Q E p hot hs
theorem tab_at {x : Str} {N : List Str} {st : Stmt} {a : Addr} {fd : FuncData} (hF : Fun M.K x x st a fd) (hm : M.mg x = some (.ref a)) (ht : TabC M c.tabs N x) {cdv : Value} (hcd : cdv = fd.code) :
    ∀ P q nm, (P, q, nm) ∈ c.tabs → q ∈ N → q = (x ++ (".<locals>." : Str)) ++ nm ∧ ∃ c0, cdv = .ref c0 ∧ LamX.TabB M.base M.mg c0 P := fun P q nm h1 h2 => by
  obtain ⟨e, a', o, fd', c0, z1, z2, z3, z4, z5⟩ := ht P q nm h1 h2
  rw [hm] at z1
  cases z1
  obtain ⟨oc, od, kV, dc, pm, an, cv, ct, sl, rfl, lk, cd⟩ := hF.ex
  rw [lk] at z2
  cases z2
  cases z3
  exact ⟨e, c0, hcd.trans z4, z5⟩
/-- a def's body, by the evaluator -/
theorem def_at (hc : c.K = M.K) (bl : ∀ x, x ∈ bltNames → M.mg x = none) {lvl d : Nat} (W : CallOk M c (evF T d) lvl fn np) {f : Nat} {x : Str} {F : Fn} {st : Stmt} {N ps : List Str} {a : Addr} {fd : FuncData}
    (hT : T f = some F) (hF : Fun M.K x x st a fd) (hm : M.mg x = some (.ref a)) (hS : FnScope N ps (defScope st)) (h1 : F.np = ps.length) (h2 : F.ns = N.length) (h3 : np f = ps.length) (hM : mSs fn N (defScope st) F.body (defBody st) = true) (ht : TabC M c.tabs N x) :
    FnOk M.P M.w M.K M.mg M.base (L2N.CX M.P M.w) (lvl + 2) a fd ps (spC c (evF T (d + 1)) f (np f)) := by
  refine okN hF hS (fun vs H Q E q => by rw [q.1, h3]) (fun cdv A outer s H vs Q E hcd hr q => ?_)
  obtain ⟨hl, G, ods, Fr, sb, mk, ro, nd, gf, q⟩ := q
  refine ⟨_, sound_Ss W F.body (ctx_of hS.nd hr hc bl (tab_at hF hm ht hcd)) hM, G, Fr, ods.map some ++ List.replicate (F.ns - F.np) none, ⟨sb, ?_, nd, gf⟩, ?_⟩
  · have e : N.length - vs.length = F.ns - F.np := by rw [hl, h3, h1, h2]
    unfold L2.start
    rw [e]
    exact REnv.start mk _ ro
  · have el : ods.length = F.np := by rw [← ro.len, hl, h3, h1]
    simp only [evF_succ, hT, callF, if_pos el] at q
    revert q
    cases exs (evF T d) F.body (ods.map some ++ List.replicate (F.ns - F.np) none) with
    | nx e => exact fun q σ' H' G' F' s' st' => q _ H' G' [] (st'.less fun _ z => by cases z) s'.sub (by simp only [RO, RS]; exact ⟨trivial, trivial⟩) List.nodup_nil (fun _ z => by cases z)
    | rt r e => exact fun q v H' G' F' sb' st' rp nd' fr' => q v H' G' F' st' sb' rp nd' fr'
    | exc k e => exact fun q H' G' sb' st' => q H' G' st' sb'
    | bk e => exact fun q => q.elim
    | ct e => exact fun q => q.elim
    | bad => exact fun q => q.elim
theorem def_ok (hc : c.K = M.K) (bl : ∀ x, x ∈ bltNames → M.mg x = none) {lvl d : Nat} (W : CallOk M c (evF T d) lvl fn np) {f : Nat} {x : Str} (h : DefOk M c.tabs fn T np f x) :
    ∃ a fd ps, FnOk M.P M.w M.K M.mg M.base (L2N.CX M.P M.w) (lvl + 2) a fd ps (spC c (evF T (d + 1)) f (np f)) ∧ M.mg x = some (.ref a) ∧ PySem.W.keepIn M.K (.ref a) = true ∧ Binds M.K fd ps [] := by
  obtain ⟨F, st, N, ps, hT, ⟨a, fd, hF, hm, hb⟩, hS, h1, h2, h3, hM, ht⟩ := h.ex
  exact ⟨a, fd, ps, def_at hc bl W hT hF hm hS h1 h2 h3 hM ht, hm, hF.kp, hb⟩
/-- the module's constants -/
def GcOk (M : Mo) (fn : Nm) : Prop := ∀ x d, fn.g x = some d → ∃ v u, M.mg x = some u ∧ RelV v u ∧ ∀ (c : RC) G, RS c G d v
/-- no function is made -/
structure Nm.Flat (fn : Nm) : Prop where
  li : ∀ g, fn.li g = none
  le : ∀ g sc z, fn.le g sc z = false
  de : ∀ g sc z, fn.de g sc z = false
theorem CallOk.plain {fn0 : Nm} {cd : Nat → Option CloD} {C : CallS} {lvl : Nat} (W : CallOk M c C lvl (mkFn fn0 cd T) np) (h : fn0.Flat) : CallOk M c C lvl fn0 np :=
  ⟨W.ok, W.ar, W.gc, W.cs, W.xc, W.hf, W.hw, fun base k ex kb => W.up base k ex (fun on => by
    obtain ⟨q, nm, fr, sc, cl, hl, _⟩ := kb on
    rw [h.li] at hl
    cases hl), W.run, W.fat, fun g q nm fr hl => by (rw [h.li] at hl; cases hl), fun g sc z hl => by (rw [h.le] at hl; cases hl), fun g sc z hl => by (rw [h.de] at hl; cases hl)⟩
theorem clo_fat {fn : Nm} {base : Heap} {k : CloR} (kb : CloB fn base k) (on : k.on = true) : ∀ h, k.fo h → PySem.W.FnAt k.f h := fun h q => by
  obtain ⟨_, _, _, _, cl, _, _, _, alt⟩ := kb on
  rcases alt with ⟨params, body, scope, pos, _, e⟩ | ⟨st, _, e⟩
  · rw [e] at q
    obtain ⟨pm, ctv, z⟩ := q
    exact ⟨_, _, _, _, z⟩
  · rw [e] at q
    obtain ⟨od, sl, doc, pm, ctv, z⟩ := q
    exact ⟨_, _, _, _, z⟩
/-- what is known of the module, whatever the base above its own -/
structure ModOk (M : Mo) (cl : Nat → Addr) (tabs : List (Addr × Str × Str)) (fn0 : Nm) (cd : Nat → Option CloD) (T : Nat → Option Fn) (np : Nat → Nat) : Prop where
  flat : fn0.Flat
  gc : GcOk M fn0
  cs : ∀ k x, fn0.c k = some x → ExcOk M (cl k) x
  xc : ∀ j x, fn0.c j = some x → ExcC M.K (cl j) ∧ PySem.W.exmOne M.K (.ref (cl j)) (.ref (cl 0)) = some true
  hf : ∀ j x, fn0.h j x = true → HFact M.K M.mg (cl j) x (relE j x)
  hw : ∀ (b : Heap) f x wd, fn0.w f = some (x, wd) → ∃ a fd ps, M.mg x = some (.ref a) ∧ PySem.W.keepIn M.K (.ref a) = true ∧ Binds M.K fd ps [] ∧ ∀ j y, fn0.c j = some y → fn0.h j "ValueError" = true → FnW M.P M.w M.K M.mg b (L2N.CX M.P M.w) 1 a fd ps (rWd (cl j) (wordOf (relE j) wd))
  bl : ∀ x, x ∈ bltNames → M.mg x = none
  df : ∀ f x, fn0 f = some x → DefOk M tabs (mkFn fn0 cd T) T np f x
  np : ∀ f F, T f = some F → F.np = np f
  tb : ∀ g dd, cd g = some dd → (∃ P, (P, dd.q, dd.nm) ∈ tabs) ∧ ∀ p ∈ tabs, p.2.1 ∉ dd.N
theorem DefOk.base {M : Mo} {tabs : List (Addr × Str × Str)} {fn : Nm} {f : Nat} {x : Str} (h : DefOk M tabs fn T np f x) {b : Heap} (hb : ∀ a o, M.base.get? a = some o → b.get? a = some o) : DefOk { M with base := b } tabs fn T np f x := by
  obtain ⟨F, st, N, ps, hT, hd, hS, h1, h2, h3, hM, ht⟩ := h.ex
  exact ⟨F, st, N, ps, hT, hd, hS, h1, h2, h3, hM, ht.base hb⟩
theorem calls_ok {cl : Nat → Addr} {tabs : List (Addr × Str × Str)} {fn0 : Nm} {cd : Nat → Option CloD} (o : ModOk M cl tabs fn0 cd T np) : ∀ (d : Nat) (b : Heap) (k : CloR), (∀ a o, M.base.get? a = some o → b.get? a = some o) → CloB (mkFn fn0 cd T) b k → CallOk { M with base := b } ⟨M.K, cl, k, tabs⟩ (evF T d) (2 * d) (mkFn fn0 cd T) np
  | 0, b, k, hb, kb => by
    have zero : ∀ (b : Heap) (k : CloR) f x, fn0 f = some x → ∃ a fd ps, FnOk M.P M.w M.K M.mg b (L2N.CX M.P M.w) (2 * 0) a fd ps (spC ⟨M.K, cl, k, tabs⟩ (evF T 0) f (np f)) ∧ M.mg x = some (.ref a) ∧ PySem.W.keepIn M.K (.ref a) = true ∧ Binds M.K fd ps [] := fun b k f x hf => by
      obtain ⟨F, st, N, ps, hT, ⟨a, fd, hF, hm, hb⟩, hS, h1, h2, h3, hM, _⟩ := (o.df f x hf).ex
      exact ⟨a, fd, ps, ⟨fun vs H Q E q => by (rw [q.1, h3]), (fun A outer s H args us vs Q E _ _ _ _ q => by
        obtain ⟨_, G, ods, Fr, _, _, _, _, _, q⟩ := q
        simp only [evF_zero] at q)⟩, hm, hF.kp, hb⟩
    exact ⟨zero b k, fun f ods z => by simp only [evF_zero] at z; exact absurd rfl z, (fun x d h => by
        obtain ⟨v, u, h1, h2, h3⟩ := o.gc x d h
        exact ⟨v, u, h1, h2, h3 _⟩), (fun k x h => let e := o.cs k x h; ⟨e.ex, e.gC, e.kC, e.sC, e.tC⟩), o.xc, o.hf, o.hw b, fun b' k' _ _ => zero b' k', (fun on A outer s H us vs Q E _ _ _ _ _ q => by
        obtain ⟨G, ods, Fr, ws, _, _, _, _, _, _, q⟩ := q
        simp only [evF_zero] at q), fun on => clo_fat kb on, (fun g q nm fr h => by
        simp only [mkFn, Option.map_eq_some_iff] at h
        obtain ⟨dd, h1, h2⟩ := h
        cases h2
        exact (o.tb g dd h1).1), fun g sc z h => lam_fact h, fun g sc z h => def_in h⟩
  | d + 1, b, k, hb, kb => by
    refine ⟨fun f x hf => def_ok (M := { M with base := b }) (c := ⟨M.K, cl, k, tabs⟩) rfl o.bl (calls_ok o d b k hb kb) ((o.df f x hf).base hb), fun f ods z => ?_, (fun x d h => by
        obtain ⟨v, u, h1, h2, h3⟩ := o.gc x d h
        exact ⟨v, u, h1, h2, h3 _⟩), (fun k x h => let e := o.cs k x h; ⟨e.ex, e.gC, e.kC, e.sC, e.tC⟩), o.xc, o.hf, o.hw b, fun b' k' hb' kb' f x hf => def_ok (M := { M with base := b' }) (c := ⟨M.K, cl, k', tabs⟩) rfl o.bl (calls_ok o d b' k' (fun a o e => hb' _ _ (hb a o e)) kb') ((o.df f x hf).base fun a o e => hb' _ _ (hb a o e)),
        fun on A outer s H us vs Q E hr e0 hf hco rv sp => clo_run (M := { M with base := b }) (c := ⟨M.K, cl, k, tabs⟩) rfl o.bl ((calls_ok o d b k hb kb).plain o.flat) o.np (fun g dd hg => (o.tb g dd hg).2) kb on hr e0 hf hco rv sp, fun on => clo_fat kb on, (fun g q nm fr h => by
        simp only [mkFn, Option.map_eq_some_iff] at h
        obtain ⟨dd, h1, h2⟩ := h
        cases h2
        exact (o.tb g dd h1).1), fun g sc z h => lam_fact h, fun g sc z h => def_in h⟩
    simp only [evF_succ] at z
    cases hf : T f with
    | none => rw [hf] at z; exact absurd rfl z
    | some F =>
      rw [hf] at z
      simp only [callF] at z
      split at z
      · rename_i e; rw [e, o.np f F hf]
      · exact absurd rfl z
end
end MW
namespace MW
open L2 PyProof.Rows PySem.Spec PySem
/-- the law's promise, its tables of code objects empty at the start -/
def spLaw (n : Nat) (K : PySem.W.Frag) (tabs : List (Addr × Str × Str)) : Sp := fun vs H Q _ => ∃ (a : Addr) (ns : List Int), vs = [.ref a] ∧ SqL K H a (ns.map V.int) ∧ ns.length ≤ n ∧ (∀ p ∈ tabs, H p.1 = some (.tbl #[])) ∧ ∀ H', Q (.bl true) H'
/-- the shared part at the start -/
def startG (tabs : List (Addr × Str × Str)) (H : Hp) : Hp := fun a => match tabs.find? fun p => p.1 == a with
  | some p => some (tmark p.2.1)
  | none => match H a with
    | some (.xd _) => none
    | some (.tbl _) => none
    | o => o
theorem startG_tab {tabs : List (Addr × Str × Str)} {H : Hp} (hd : ∀ p ∈ tabs, ∀ p' ∈ tabs, p.1 = p'.1 → p.2.1 = p'.2.1) {p : Addr × Str × Str} (hp : p ∈ tabs) : startG tabs H p.1 = some (tmark p.2.1) := by
  unfold startG
  cases h : tabs.find? fun p' => p'.1 == p.1 with
  | none => exact absurd (List.find?_eq_none.mp h p hp) (by simp)
  | some p' =>
    have h1 := List.mem_of_find?_eq_some h
    have h2 : p'.1 = p.1 := by simpa using List.find?_some h
    simp only [hd p' h1 p hp h2]
theorem startG_sub {tabs : List (Addr × Str × Str)} {H : Hp} (ht : ∀ p ∈ tabs, H p.1 = some (.tbl #[])) : Sub (startG tabs H) H := fun a o q => by
  unfold startG at q
  split at q
  · rename_i p hp
    cases q
    have h1 := List.mem_of_find?_eq_some hp
    have h2 : p.1 = a := by simpa using List.find?_some hp
    subst h2
    refine .inr (.inr ⟨p.2.1, rfl, #[], ht p h1, trivial, fun pos cv hc => ?_⟩)
    have : codeAmong pos (#[] : Array Value).toList = none := rfl
    rw [this] at hc
    cases hc
  · split at q
    · cases q
    · cases q
    · rename_i h1 h2
      refine .inl ⟨q, ?_⟩
      cases o <;> first | trivial | exact absurd q (by first | exact h1 _ | exact h2 _)
theorem startG_seq {tabs : List (Addr × Str × Str)} {H : Hp} {K : PySem.W.Frag} {a : Addr} {xs : List V} (ht : ∀ p ∈ tabs, H p.1 = some (.tbl #[])) (h : SqL K H a xs) : SqL K (startG tabs H) a xs := by
  have keep : ∀ o, H a = some o → nm o → startG tabs H a = some o := fun o e n => by
    unfold startG
    split
    · rename_i p hp
      have h1 := List.mem_of_find?_eq_some hp
      have h2 : p.1 = a := by simpa using List.find?_some hp
      rw [← h2, ht p h1] at e
      cases e
      exact n.elim
    · split
      · rename_i z; rw [e] at z; cases z; exact n.elim
      · rename_i z; rw [e] at z; cases z; exact n.elim
      · exact e
  rcases h with (h | ⟨o, h⟩) | h
  · exact .inl (.inl (keep _ h trivial))
  · exact .inl (.inr ⟨o, keep _ h trivial⟩)
  · exact .inr h
section
variable {P : Program} {w : World} {K : PySem.W.Frag} {mg : Str → Option Value} {base : Heap} {fn0 : Nm} {cd : Nat → Option CloD} {T : Nat → Option Fn} {np : Nat → Nat}
/-- THE END: the law's promise, from what the evaluator answers -/
theorem law_at {cl : Nat → Addr} {tabs : List (Addr × Str × Str)} (o : ModOk ⟨P, w, K, mg, base⟩ cl tabs fn0 cd T np) (hd : ∀ p ∈ tabs, ∀ p' ∈ tabs, p.1 = p'.1 → p.2.1 = p'.2.1) (d n : Nat) {f : Nat} {x : Str} {F : Fn} {st : Stmt} {N ps : List Str} {a : Addr} {fd : FuncData}
    (hf : T f = some F) (hF : Fun K x x st a fd) (hm : mg x = some (.ref a)) (hS : FnScope N ps (defScope st)) (h1 : F.np = ps.length) (h2 : F.ns = N.length) (h3 : np f = ps.length) (hM : mSs (mkFn fn0 cd T) N (defScope st) F.body (defBody st) = true) (ht : TabC ⟨P, w, K, mg, base⟩ tabs N x) (hp : ps.length = 1)
    (plain : ∀ ns : List Int, ns.length ≤ n → evF T (d + 1) f [.s (.scr (ns.map .int))] = .ok (.s (.bl true))) :
    FnOk P w K mg base (L2N.CX P w) (2 * d + 2) a fd ps (spLaw n K tabs) := by
  have W := calls_ok o d base CloR.off (fun _ _ e => e) (fun z => by cases z)
  refine (def_at (c := ⟨K, cl, CloR.off, tabs⟩) (M := ⟨P, w, K, mg, base⟩) rfl o.bl W hf hF hm hS h1 h2 h3 hM ht).imp fun vs H Q E q => ?_
  obtain ⟨b, ns, rfl, hS, hl, hT, q⟩ := q
  have e : ∀ l : List Int, RSL ⟨K, cl, CloR.off, tabs⟩ (startG tabs H) (l.map .int) (l.map V.int) := by
    intro l
    induction l with
    | nil => simp [RSL]
    | cons i l ih => simp only [List.map_cons, RSL]; exact ⟨.int i, _, rfl, by simp [RS], ih⟩
  refine ⟨by rw [h3, hp]; rfl, startG tabs H, [.s (.scr (ns.map .int))], [], startG_sub hT, fun p hp => startG_tab hd hp, ?_, List.nodup_nil, (fun _ z => by cases z), ?_⟩
  · simp only [ROL, RO, RS]
    exact ⟨.ref b, [], [], [], rfl, rfl, ⟨⟨b, _, rfl, startG_seq hT hS, e ns⟩, rfl⟩, rfl, rfl⟩
  · rw [plain ns hl]
    intro v H' G' F' _ _ rv _ _
    simp only [RO, RS] at rv
    rw [rv.1]
    exact q H'
end
theorem noEx {P : Program} {w : World} {H : Hp} {s : Shared} {e : Value} {s' : Shared} (h : L2N.CX P w [] H s (fun _ _ _ => False) e s') : False := by
  obtain ⟨_, _, _, _, _, _, _, _, _, _, _, _, z⟩ := h
  exact z
end MW
namespace MW
open L2 PyProof.Rows PySem.Spec PySem L2H
/-! ### class tests wherever the exception is held; the def of the nine words -/
section
variable {Y : Cx} {a D : Addr} {oe : Obj} {e : Str} {i : Nat}
theorem inst_of {pins : List (Addr × Obj)} {σ : L2.St} {H : Hp} {s : Shared} (I : Inv Y pins σ H s) (hp : (a, oe) ∈ Y.pn) (hz : Zc (.ref D) none oe) (hf : ∃ z, oe.data = .fields z) : PySem.W.InstAt s.heap a oe D none := by
  have hget := (I.pin (a, oe) (List.mem_append_left _ hp)).1
  obtain ⟨z, hd⟩ := hf
  obtain ⟨o1, o2, o3, o4⟩ := oe
  obtain ⟨z1, z2⟩ := hz
  dsimp only at z1 z2 hd
  subst z1 z2 hd
  exact ⟨hget, rfl, rfl, trivial⟩
theorem call_isY (hp : (a, oe) ∈ Y.pn) (C : ExcC Y.K D) (hz : Zc (.ref D) none oe) (hf : ∃ z, oe.data = .fields z) : CallR Y (.builtin "isinstance") (fun xs H Q => rIsE Y.K D a xs H Q ∨ rIsET Y.K D a xs H Q) := by
  intro pins s σ H xs us Q I r h
  have J := inst_of I hp hz hf
  have X0 := PySem.W.handS_kitx_exc (x := a) (ox := oe) C.hg C.hk C.hs C.hd C.ha C.hn C.ht C.hm
  rcases h with ⟨c, cv, b, rfl, hcv, k, q⟩ | ⟨tp, cs, ws, b, rfl, hT, kk, k, q⟩
  · cases r with
    | cons rx rr =>
      cases rr with
      | cons rt rr =>
        cases rr
        cases rx
        have ec := hcv _ rt
        subst ec
        exact PySem.W.kia_one X0 I.kIn J k (fun z => nomatch z) fun tk => ⟨.bl b, H, I.kept (t' := tk) fun _ _ z => z, rfl, q⟩
  · cases r with
    | cons rx rr =>
      cases rr with
      | cons rt rr =>
        cases rr
        cases rx
        cases rt
        obtain ⟨_, its, rv, o, h1, h2, n, h3⟩ := I.hok tp _ hT
        have e3 := ClsV.all kk rv
        subst e3
        obtain ⟨oc, od, dt, sl⟩ := o
        simp only at h2 h3
        subst h2 h3
        exact PySem.W.kia_tup X0 I.kIn J h1 k (fun z => nomatch z) fun tk => ⟨.bl b, H, I.kept (t' := tk) fun _ _ z => z, rfl, q⟩
theorem clsY {x : Str} {b : Bool} {p : Pos} (hg : Gl Y x) (hd : (x == ("__debug__" : Str)) = false) (f : HFact Y.K Y.mg D x b) : ∃ (c : V) (cv : Value), PE Y (.Name x p) (tC c) ∧ ClsV c cv ∧ PySem.W.kitOne Y.K (.ref D) cv = some b := by
  rcases f with ⟨C, hm, hk⟩ | ⟨T, hm, hb, hn, hk⟩
  · exact ⟨.ref C, .ref C, pe_glob hg hm rfl hd, .own C, hk⟩
  · exact ⟨.ty T, .type T, pe_bltn hg hm hb rfl hn hd, .ty T, hk⟩
/-- isinstance(e, x) -/
theorem isY_one {x : Str} {b : Bool} {p0 p1 p2 pos : Pos} (hp : (a, oe) ∈ Y.pn) (C : ExcC Y.K D) (hz : Zc (.ref D) none oe) (hf : ∃ z, oe.data = .fields z) (hN : Y.N[i]? = some e) (hv : Vis Y.env.scope e) (he : (e == ("__debug__" : Str)) = false ∧ (e == ("__classdict__" : Str)) = false)
    (gi : Gl Y "isinstance") (bl : Y.mg "isinstance" = none) (gx : Gl Y x) (hd : (x == ("__debug__" : Str)) = false) (f : HFact Y.K Y.mg D x b) : PE Y (.Call (.Name "isinstance" p0) [.Name e p1, .Name x p2] [] pos) (fun σ H Q => σ[i]? = some (some (.ref a)) ∧ Q (.bl b) H) := by
  obtain ⟨c, cv, pc, kc, hk⟩ := clsY (p := p2) gx hd f
  have pv : PE Y (.Name e p1) (tVar i) := pe_var hN hv he.1 he.2
  refine PE.weak (pe_callB (call_isY hp C hz hf) gi bl PyProof.Rows.boot_isinstance (pa_cons pv (pa_cons pc pa_nil))) fun σ H Q q => ?_
  exact ⟨_, q.1, .inl ⟨c, cv, b, rfl, fun u ru => kc.eq ru, hk, q.2⟩⟩
def NamesOk (Y : Cx) (D : Addr) (r : Str → Bool) : List Expr → List Str → Prop
  | [], [] => True
  | .Name x _ :: es, y :: ys => x = y ∧ Gl Y x ∧ (x == ("__debug__" : Str)) = false ∧ HFact Y.K Y.mg D x (r x) ∧ NamesOk Y D r es ys
  | _, _ => False
theorem namesY {r : Str → Bool} : ∀ {es : List Expr} {xs : List Str}, NamesOk Y D r es xs → ∃ cs us, PA Y es (fun σ H Q => Q cs H) ∧ Paired ClsV cs us ∧ PySem.W.kitAny Y.K (.ref D) us = some (xs.any r) ∧ cs.length = xs.length
  | [], [], _ => ⟨[], [], pa_nil, .nil, rfl, rfl⟩
  | .Name x p :: es, y :: ys, h => by
    obtain ⟨rfl, g, d, f, h⟩ := h
    obtain ⟨c, cv, pc, kc, hk⟩ := clsY (p := p) g d f
    obtain ⟨cs, us, pa, kk, ha, hl⟩ := namesY h
    refine ⟨c :: cs, cv :: us, PA.weak (pa_cons pc pa) fun σ H Q z => z, .cons kc kk, ?_, by rw [List.length_cons, List.length_cons, hl]⟩
    rw [List.any_cons]
    refine kitAny_cons hk (fun z => ?_) (fun z => ?_)
    · rw [z, Bool.false_or]; exact ha
    · rw [z, Bool.true_or]
/-- isinstance(e, (x, ..)) -/
theorem isY_tup {r : Str → Bool} {es : List Expr} {xs : List Str} {p0 p1 p2 pos : Pos} {k : Nat} (hp : (a, oe) ∈ Y.pn) (C : ExcC Y.K D) (hz : Zc (.ref D) none oe) (hf : ∃ z, oe.data = .fields z) (hN : Y.N[i]? = some e) (hv : Vis Y.env.scope e) (he : (e == ("__debug__" : Str)) = false ∧ (e == ("__classdict__" : Str)) = false)
    (gi : Gl Y "isinstance") (bl : Y.mg "isinstance" = none) (hl : xs.length ≤ 100) (h : NamesOk Y D r es xs) : PE Y (.Call (.Name "isinstance" p0) [.Name e p1, .Tuple es k p2] [] pos) (tHB i a (xs.any r)) := by
  obtain ⟨cs, us, pa, kk, ha, hln⟩ := namesY h
  have pv : PE Y (.Name e p1) (tVar i) := pe_var hN hv he.1 he.2
  refine PE.weak (pe_callB (call_isY hp C hz hf) gi bl PyProof.Rows.boot_isinstance (pa_cons pv (pa_cons (pe_tup pa) pa_nil))) fun σ H Q q => ?_
  refine ⟨_, q.1, Nat.le_trans (by omega) (show (100 : Nat) ≤ sizeLine by decide), fun p hp => .inr ⟨p, cs, us, xs.any r, rfl, upd_same, kk, ha, q.2 _ fun b o hb => ?_⟩⟩
  by_cases hbp : b = p
  · subst hbp; rw [hp] at hb; cases hb
  · rw [upd_ne hbp]; exact hb
end
/-- the nine words and their classes; the other classes -/
def w9 : List (Str × Str) := [("NoNet", "NoNet"), ("NoPlace", "NoPlace"), ("SamePlace", "SamePlace"), ("Twice", "Twice"), ("Taken", "Taken"), ("NoColours", "NoColours"), ("NoSet", "NoSet"), ("NoParting", "NoParting"), ("NoGroup", "NoGroup")]
def w9c : List Str := ["NoNet", "NoPlace", "SamePlace", "Twice", "Taken", "NoColours", "NoSet", "NoParting", "NoGroup"]
def w6c : List Str := ["TooMany", "NoDeed", "Unlike", "NoText", "NoRow", "NoName"]
/-- the items at i below n whose test holds -/
def pick (bs : List Bool) (n : Nat) : List V := ((List.range n).filter fun i => bs.getD i false).map fun i => .str (w9c.getD i "")
theorem pick_succ (bs : List Bool) (n : Nat) : pick bs (n + 1) = if bs.getD n false = true then pick bs n ++ [.str (w9c.getD n "")] else pick bs n := by
  unfold pick
  rw [List.range_succ, List.filter_append, List.map_append]
  cases h : bs.getD n false with
  | true => rw [if_pos rfl, List.filter_cons_of_pos (by exact h)]; rfl
  | false => rw [if_neg Bool.false_ne_true, List.filter_cons_of_neg (by rw [h]; exact Bool.false_ne_true)]; simp
theorem pick_len (bs : List Bool) (n : Nat) : (pick bs n).length ≤ n := by
  unfold pick
  rw [List.length_map]
  exact Nat.le_trans (List.length_filter_le _ _) (by rw [List.length_range]; exact Nat.le_refl _)
/-- what the def of the nine words answers of the class number j -/
theorem w9_says (j : Nat) (hj : j < 16) : (if w6c.any (relE j) = true then V.str "else" else if (pick (w9c.map (relE j)) 9).length = 1 then (if relE j "ValueError" = true then (pick (w9c.map (relE j)) 9).getD 0 (.str "else") else .str "else") else .str "else") = V.str (wordOf (relE j) w9) := by
  have : ∀ j : Fin 16, (if w6c.any (relE j) = true then V.str "else" else if (pick (w9c.map (relE j)) 9).length = 1 then (if relE j "ValueError" = true then (pick (w9c.map (relE j)) 9).getD 0 (.str "else") else .str "else") else .str "else") = V.str (wordOf (relE j) w9) := by decide +kernel
  exact this ⟨j, hj⟩
theorem kt_ref {K : PySem.W.Frag} {D C : Addr} {b : Bool} (h0 : b = false → (Value.ref D == Value.ref C) = false) (hd : PySem.W.hasDictIn K C = true) (ht : PySem.W.typeIn K (.ref C) = some (.type "type")) (hs : PySem.W.subIn K (.ref D) (.ref C) = some b) : PySem.W.kitOne K (.ref D) (.ref C) = some b := by
  obtain ⟨cd, hc, _⟩ := PySem.W.any_some hd
  unfold PySem.W.kitOne
  have e : PySem.W.kitCls K (.ref D) (.ref C) = some b := by
    unfold PySem.W.kitCls
    dsimp only
    rw [if_pos (by rw [hc, ht]; rfl)]
    exact hs
  cases b with
  | true =>
    split
    · rfl
    · exact e
  | false => rw [h0 rfl, if_neg Bool.false_ne_true]; exact e
theorem kt_ty {K : PySem.W.Frag} {D : Addr} {T : String} (hm : PySem.W.kitMeta T = true) (hs : PySem.W.subIn K (.ref D) (.type T) = some true) : PySem.W.kitOne K (.ref D) (.type T) = some true := by
  unfold PySem.W.kitOne
  have e : PySem.W.kitCls K (.ref D) (.type T) = some true := by
    unfold PySem.W.kitCls
    dsimp only
    rw [if_pos hm]
    exact hs
  split
  · rfl
  · exact e
end MW
namespace MW
open L2 PyProof.Rows PySem.Spec PySem LamX
/-- the end, where defs of the module make functions: K's tables are empty when the law is called -/
theorem walk_ofMk {l : PySem.W.OpenLaw} {n k : Nat} {q : Program} {loose : List Str} {XP : (Str → Option Value) → Heap → Prop} {YP : World → Heap → Prop} {d : DefRec} {K : Params → PySem.W.Frag} {CX : World → CXT} {x : Str}
    (hn : l.most = some n) (hn2 : n ≤ sizeLine) (hdf : d.params.defaults = []) (hr : Room k callerA) (hY : ∀ (w : World) (h : Heap), YP w h → (K w.params).In h)
    (F : ∀ (w : World) (mg : Str → Option Value) (fa : Addr) (h : Heap), YP w h → (K w.params).In h → h.Ns mainGlobals mg → mg d.name = some (.ref fa) →
      (∀ (y : Str) (c P : Addr), ((recsOf q).any fun e => e.name == y) = true → PySem.W.tabIn (K w.params) y = some (c, P) → PySem.W.CodeHd h c P ∧ h.get? P = some { cls := .none, data := .fields #[] }) → LawAtS l w (K w.params) (CX w) k n x mg fa h)
    (hCX : ∀ (w : World) (H : Hp) (s : Shared) (e : Value) (s' : Shared), CX w [] H s (fun _ _ _ => False) e s' → False) :
    PySem.W.WalkO q loose XP YP l.row.toRowW d [] (fun f vs => PySem.call f vs) := by
  refine Att.attach_callB hn hdf fun w s₀ s₁ mg mb fa o pm cd doc a vs ns G Y ho hd hcd hmg hobj hints hlen hbits hg => ?_
  have KX := hY w _ Y
  obtain ⟨fd, cs, sp, hT, nT, C, hb, hsp, hF⟩ := F w mg fa _ Y KX G.T.g hmg fun y c P ha ht => by
    cases hf : (recsOf q).find? (fun e => e.name == y) with
    | none =>
      obtain ⟨dL, hm, hn1⟩ := List.any_eq_true.mp ha
      exact absurd hn1 (by simpa using List.find?_eq_none.mp hf dL hm)
    | some dd => exact PySem.W.tab_of G.T KX hf ht
  exact law_callTs KX G.T.g G.T.b G.T.builtins G.T.nolimit hg hT nT C G.T.bmain hobj hints (Nat.le_trans hlen hn2) hr hF hb (fun H hH hS => hsp H a ns hlen hbits hH hS) fun H e s' => hCX w H s₁ e s'
theorem lawAt {l : PySem.W.OpenLaw} {w : World} {K : PySem.W.Frag} {CX : CXT} {k : Nat} {x : Str} {mg : Str → Option Value} {fa : Addr} {h : Heap}
    (H : ∃ (fd : FuncData) (tabs : List (Addr × Str × Str)) (cs : List (Addr × Addr)), tabs.map (·.1) = cs.map (·.2) ∧ (∀ p ∈ cs, h.get? p.2 = some { cls := .none, data := .fields #[] }) ∧ (∀ p ∈ cs, K.lookup p.2 = none) ∧ (∀ p ∈ cs, PySem.W.CodeHd h p.1 p.2) ∧ (∀ (s : Shared) (v : Value), BindsTo s fd ⟨[v], []⟩ [(x, v)]) ∧
      ∀ base : Heap, K.In base → base.Ns mainGlobals mg → (∀ p ∈ cs, TabB base mg p.1 p.2) → FnOk l.prog w K mg base CX k fa fd [x] (spLaw 63 K tabs)) : LawAtS l w K CX k 63 x mg fa h := by
  obtain ⟨fd, tabs, cs, e, hT, hN, hC, hb, hF⟩ := H
  refine ⟨fd, cs, spLaw 63 K tabs, hT, hN, hC, hb, fun H a ns hl _ hH hS => ⟨a, ns, rfl, hS, hl, fun p hp => ?_, fun _ => rfl⟩, hF⟩
  obtain ⟨p', h1, h2⟩ := List.mem_map.mp (show p.1 ∈ cs.map (·.2) by rw [← e]; exact List.mem_map.mpr ⟨p, hp, rfl⟩)
  rw [← h2]
  exact hH p' h1
end MW
namespace MW
open L2 PyProof.Rows PySem.Spec PySem
/-! ### the plain side: rules for what the evaluator answers -/
section
variable (C : CallS)
def WE (a : ME) (e : Env) (Q : OD → Env → Prop) : Prop := ∃ od e', ev C a e = .ok od e' ∧ Q od e'
def WA (l : MAs) (e : Env) (Q : List OD → Env → Prop) : Prop := ∃ od e', eva C l e = .ok od e' ∧ Q od e'
/-- arguments, all shared -/
def WD (l : MAs) (e : Env) (Q : List D → Env → Prop) : Prop := ∃ ds e', eva C l e = .ok (ds.map .s) e' ∧ Q ds e'
def WO (a : ME) (e : Env) (Q : Opd → Env → Prop) : Prop := ∃ o e', MW.opd a (ev C a) e = .ok o e' ∧ Q o e'
def WI (it : MI) (e : Env) (Q : List D → Env → Prop) : Prop := ∃ l e', evi C it e = .ok l e' ∧ Q l e'
def WT (o : MO) (e : Env) (Q : Bool → Env → Prop) : Prop := ∃ b e', evo C o e = .ok b e' ∧ Q b e'
def WS (s : MS) (e : Env) (K : SOut → Prop) : Prop := K (ex C s e)
def WSs (l : MSs) (e : Env) (K : SOut → Prop) : Prop := K (exs C l e)
def thenK (l : MSs) (K : SOut → Prop) : SOut → Prop
  | .nx e => WSs C l e K
  | .rt r e => K (.rt r e)
  | .bk e => K (.bk e)
  | .ct e => K (.ct e)
  | .exc c e => K (.exc c e)
  | .bad => K .bad
end
def R1 (p : P1) (d : D) (Q : OD → Prop) : Prop := ∃ od, p1Sem p d = some od ∧ Q od
def R2 (p : P2) (a b : D) (Q : OD → Prop) : Prop := ∃ od, p2Sem p a b = some od ∧ Q od
/-- what a value is, shared -/
def TD (x : OD) (R : D → Prop) : Prop := R x.toD
def isBv : ME → Bool
  | .bv _ => true
  | _ => false
section
variable {C : CallS} {e : Env} {Q : OD → Env → Prop} {K : SOut → Prop}
theorem w_var {i : Nat} {d : D} (h : e[i]? = some (some (.s d))) (q : Q (.s d) e) : WE C (.var i) e Q := by
  refine ⟨.s d, e, ?_, q⟩
  have : e.set i (some (.s d)) = e := by
    apply List.ext_getElem?
    intro j
    by_cases hj : i = j
    · subst hj
      obtain ⟨hl, _⟩ := List.getElem?_eq_some_iff.mp h
      rw [List.getElem?_set_self hl, h]
    · rw [List.getElem?_set_ne hj]
  simp only [ev, h, OD.toD, this]
theorem w_varO {i : Nat} {od : OD} (h : e[i]? = some (some od)) (q : Q (.s od.toD) (e.set i (some (.s od.toD)))) : WE C (.var i) e Q := by
  refine ⟨_, _, ?_, q⟩
  simp only [ev, h]
theorem toDs_s : ∀ ds : List D, OD.toDs (ds.map .s) = ds
  | [] => rfl
  | d :: ds => by simp only [List.map_cons, OD.toDs, OD.toD, toDs_s ds]
/-- an owned list is read: from here it is shared -/
theorem w_varL {i : Nat} {ds : List D} (h : e[i]? = some (some (.ol (ds.map .s)))) (q : Q (.s (.lst ds)) (e.set i (some (.s (.lst ds))))) : WE C (.var i) e Q := by
  refine w_varO h ?_
  simp only [OD.toD, toDs_s]
  exact q
theorem w_mov {i : Nat} {od : OD} (h : e[i]? = some (some od)) (q : Q od (e.set i none)) : WE C (.mov i) e Q := ⟨_, _, by simp only [ev, h], q⟩
theorem w_bv {i : Nat} {d : D} (h : e[i]? = some (some (.s d))) (q : Q (.s d) e) : WE C (.bv i) e Q := ⟨_, _, by simp only [ev, h], q⟩
theorem w_int {i : Int} (q : Q (.s (.int i)) e) : WE C (.cint i) e Q := ⟨_, _, rfl, q⟩
theorem w_bl {i : Bool} (q : Q (.s (.bl i)) e) : WE C (.cbl i) e Q := ⟨_, _, rfl, q⟩
theorem w_non (q : Q (.s .non) e) : WE C .cnon e Q := ⟨_, _, rfl, q⟩
theorem w_str {x : Str} (q : Q (.s (.str x)) e) : WE C (.cstr x) e Q := ⟨_, _, rfl, q⟩
theorem wo_bv {i : Nat} {od : OD} {Q : Opd → Env → Prop} (h : e[i]? = some (some od)) (q : Q (.at i) e) : WO C (.bv i) e Q := ⟨_, _, by simp only [MW.opd, h], q⟩
theorem td_s {d : D} {R : D → Prop} (q : R d) : TD (.s d) R := by
  show R (OD.s d).toD
  simp only [OD.toD]
  exact q
theorem td_l {ds : List D} {R : D → Prop} (q : R (.lst ds)) : TD (.ol (ds.map .s)) R := by
  show R (OD.ol _).toD
  simp only [OD.toD, toDs_s]
  exact q
theorem wo_e {a : ME} {Q : Opd → Env → Prop} (hb : isBv a = false) (q : WE C a e fun od e' => TD od fun d => Q (.v d) e') : WO C a e Q := by
  obtain ⟨od, e', h, q⟩ := q
  have z : MW.opd a (ev C a) e = (ev C a e).bind fun od e => .ok (.v od.toD) e := by cases a <;> first | rfl | cases hb
  exact ⟨_, _, by rw [z, h]; rfl, q⟩
theorem w_p1 {p : P1} {a : ME} (q : WO C a e fun o e1 => ∃ d, o.res e1 = some d ∧ R1 p d fun od => Q od e1) : WE C (.p1 p a) e Q := by
  obtain ⟨o, e1, h, d, hd, od, hp, q⟩ := q
  exact ⟨od, e1, by simp only [ev, h, Out.bind, hd, hp, Out.opt], q⟩
theorem w_p2 {p : P2} {a b : ME} (q : WO C a e fun o e1 => WO C b e1 fun o2 e2 => ∃ d d2, o.res e2 = some d ∧ o2.res e2 = some d2 ∧ R2 p d d2 fun od => Q od e2) : WE C (.p2 p a b) e Q := by
  obtain ⟨o, e1, h, o2, e2, h2, d, d2, hd, hd2, od, hp, q⟩ := q
  exact ⟨od, e2, by simp only [ev, h, h2, Out.bind, hd, hd2, hp, Out.opt], q⟩
theorem r_v {d : D} {R : D → Prop} (q : R d) : ∃ d', (Opd.v d).res e = some d' ∧ R d' := ⟨d, rfl, q⟩
theorem r_at {i : Nat} {d : D} {R : D → Prop} {od : OD} (h : e[i]? = some (some od)) (hf : od.flatD = some d) (q : R d) : ∃ d', (Opd.at i).res e = some d' ∧ R d' := ⟨d, by simp only [Opd.res, h, hf], q⟩
theorem r_vv {d d2 : D} {R : D → D → Prop} (q : R d d2) : ∃ a b, (Opd.v d).res e = some a ∧ (Opd.v d2).res e = some b ∧ R a b := ⟨d, d2, rfl, rfl, q⟩
theorem r_av {i : Nat} {d d2 : D} {od : OD} {R : D → D → Prop} (h : e[i]? = some (some od)) (hf : od.flatD = some d) (q : R d d2) : ∃ a b, (Opd.at i).res e = some a ∧ (Opd.v d2).res e = some b ∧ R a b := ⟨d, d2, by simp only [Opd.res, h, hf], rfl, q⟩
theorem r_va {i : Nat} {d d2 : D} {od : OD} {R : D → D → Prop} (h : e[i]? = some (some od)) (hf : od.flatD = some d2) (q : R d d2) : ∃ a b, (Opd.v d).res e = some a ∧ (Opd.at i).res e = some b ∧ R a b := ⟨d, d2, rfl, by simp only [Opd.res, h, hf], q⟩
theorem r_aa {i j : Nat} {d d2 : D} {od od2 : OD} {R : D → D → Prop} (h : e[i]? = some (some od)) (hf : od.flatD = some d) (h2 : e[j]? = some (some od2)) (hf2 : od2.flatD = some d2) (q : R d d2) : ∃ a b, (Opd.at i).res e = some a ∧ (Opd.at j).res e = some b ∧ R a b :=
  ⟨d, d2, by simp only [Opd.res, h, hf], by simp only [Opd.res, h2, hf2], q⟩
theorem flat_ol (ds : List D) : (OD.ol (ds.map .s)).flatD = some (.lst ds) := by simp only [OD.flatD, allS_map, Option.map_some]
theorem flat_s (d : D) : (OD.s d).flatD = some d := rfl
theorem w_slc {a b c : ME} (q : WO C a e fun o e1 => WE C b e1 fun x e2 => TD x fun dx => ∃ i, dx = .int i ∧ WE C c e2 fun y e3 => TD y fun dy => ∃ j, dy = .int j ∧ ∃ d, o.res e3 = some d ∧ ∃ od, sliceSem d (some i) (some j) = some od ∧ Q od e3) : WE C (.slc a b c) e Q := by
  obtain ⟨o, e1, h, x, e2, h2, i, hi, y, e3, h3, j, hj, d, hd, od, ho, q⟩ := q
  exact ⟨od, e3, by simp only [ev, h, Out.bind, h2, hi, h3, hj, hd, ho, Out.opt], q⟩
theorem w_mth {p : PM} {a b : ME} (q : WO C a e fun o e1 => ∃ d0, o.res e1 = some d0 ∧ pmTy p d0 = true ∧ WO C b e1 fun o2 e2 => ∃ d d2, o.res e2 = some d ∧ o2.res e2 = some d2 ∧ ∃ od, pmSem p d d2 = some od ∧ Q od e2) : WE C (.mth p a b) e Q := by
  obtain ⟨o, e1, h, d0, h0, ht, o2, e2, h2, d, d2, hd, hd2, od, hp, q⟩ := q
  exact ⟨od, e2, by simp only [ev, h, Out.bind, h0, ht, if_true, h2, hd, hd2, hp, Out.opt], q⟩
theorem w_chain {p p' : P2} {a b c : ME} (q : WE C a e fun x e1 => WE C b e1 fun y e2 => TD x fun dx => TD y fun dy => R2 p dx dy fun od => ∃ k, od.boo = some k ∧ if k = true then WE C c e2 (fun z e3 => TD z fun dz => R2 p' dy dz fun od => Q od e3) else Q (.s (.bl false)) e2) : WE C (.chain p p' a b c) e Q := by
  obtain ⟨x, e1, h1, y, e2, h2, od0, ho, k, hk0, q⟩ := q
  have hk : (p2Sem p x.toD y.toD).bind OD.boo = some k := by rw [ho]; exact hk0
  cases k with
  | true =>
    obtain ⟨z, e3, h3, od, hp, q⟩ := q
    exact ⟨od, e3, by simp only [ev, h1, Out.bind, h2, hk, h3, hp, Out.opt], q⟩
  | false => exact ⟨_, e2, by simp only [ev, h1, Out.bind, h2, hk], q⟩
theorem w_and {a b : ME} (q : WE C a e fun x e1 => ∃ k, x.boo = some k ∧ if k = true then WE C b e1 Q else Q (.s (.bl false)) e1) : WE C (.and2 a b) e Q := by
  obtain ⟨x, e1, h1, k, hk, q⟩ := q
  cases k with
  | true =>
    obtain ⟨y, e2, h2, q⟩ := q
    exact ⟨y, e2, by simp only [ev, h1, Out.bind, hk, h2], q⟩
  | false => exact ⟨_, e1, by simp only [ev, h1, Out.bind, hk], q⟩
theorem w_or {a b : ME} (q : WE C a e fun x e1 => ∃ k, x.boo = some k ∧ if k = true then Q (.s (.bl true)) e1 else WE C b e1 Q) : WE C (.or2 a b) e Q := by
  obtain ⟨x, e1, h1, k, hk, q⟩ := q
  cases k with
  | false =>
    obtain ⟨y, e2, h2, q⟩ := q
    exact ⟨y, e2, by simp only [ev, h1, Out.bind, hk, h2], q⟩
  | true => exact ⟨_, e1, by simp only [ev, h1, Out.bind, hk], q⟩
theorem w_not {a : ME} (q : WE C a e fun x e1 => ∃ k, x.boo = some k ∧ Q (.s (.bl !k)) e1) : WE C (.not1 a) e Q := by
  obtain ⟨x, e1, h1, k, hk, q⟩ := q
  exact ⟨_, e1, by simp only [ev, h1, Out.bind, hk], q⟩
theorem w_ife {c a b : ME} (q : WE C c e fun x e1 => ∃ k, x.boo = some k ∧ if k = true then WE C a e1 Q else WE C b e1 Q) : WE C (.ife c a b) e Q := by
  obtain ⟨x, e1, h1, k, hk, q⟩ := q
  cases k with
  | true =>
    obtain ⟨y, e2, h2, q⟩ := q
    exact ⟨y, e2, by simp only [ev, h1, Out.bind, hk, h2], q⟩
  | false =>
    obtain ⟨y, e2, h2, q⟩ := q
    exact ⟨y, e2, by simp only [ev, h1, Out.bind, hk, h2], q⟩
theorem wd_nil {Q : List D → Env → Prop} (q : Q [] e) : WD C .nil e Q := ⟨[], e, rfl, q⟩
theorem wd_cons {a : ME} {l : MAs} {Q : List D → Env → Prop} (q : WE C a e fun x e1 => TD x fun d => WD C l e1 fun ds e2 => Q (d :: ds) e2) : WD C (.cons false a l) e Q := by
  obtain ⟨x, e1, h1, ds, e2, h2, q⟩ := q
  exact ⟨x.toD :: ds, e2, by simp only [eva, h1, Out.bind, h2, List.map_cons, asArg]; rfl, q⟩
theorem wa_nil {Q : List OD → Env → Prop} (q : Q [] e) : WA C .nil e Q := ⟨[], e, rfl, q⟩
theorem wa_cons {m : Bool} {a : ME} {l : MAs} {Q : List OD → Env → Prop} (q : WE C a e fun x e1 => WA C l e1 fun ds e2 => Q (asArg m x :: ds) e2) : WA C (.cons m a l) e Q := by
  obtain ⟨x, e1, h1, ds, e2, h2, q⟩ := q
  exact ⟨_, e2, by simp only [eva, h1, Out.bind, h2, asArg], q⟩
theorem w_lst {l : MAs} (q : WD C l e fun ds e1 => ds.length ≤ sizeLine ∧ Q (.ol (ds.map .s)) e1) : WE C (.lst l) e Q := by
  obtain ⟨ds, e1, h1, h2, q⟩ := q
  exact ⟨_, e1, by simp only [ev, h1, Out.bind, List.length_map, if_pos h2], q⟩
theorem w_tup {l : MAs} (q : WD C l e fun ds e1 => ds.length ≤ sizeLine ∧ Q (.s (.tup ds)) e1) : WE C (.tup l) e Q := by
  obtain ⟨ds, e1, h1, h2, q⟩ := q
  exact ⟨_, e1, by simp only [ev, h1, Out.bind, List.length_map, if_pos h2, mkT, allS_map], q⟩
/-- a call, all arguments shared -/
theorem w_call {f : Nat} {l : MAs} (q : WD C l e fun ds e1 => ∃ r, C f (ds.map .s) = .ok r ∧ Q r e1) : WE C (.call f l) e Q := by
  obtain ⟨ds, e1, h1, r, h2, q⟩ := q
  exact ⟨r, e1, by simp only [ev, h1, Out.bind, h2], q⟩
theorem w_callO {f : Nat} {l : MAs} (q : WA C l e fun ds e1 => ∃ r, C f ds = .ok r ∧ Q r e1) : WE C (.call f l) e Q := by
  obtain ⟨ds, e1, h1, r, h2, q⟩ := q
  exact ⟨r, e1, by simp only [ev, h1, Out.bind, h2], q⟩
theorem w_skey {f : Nat} {a : ME} (q : WE C a e fun x e1 => TD x fun d => ∃ l ks od, d = .lst l ∧ keysC C f l = some ks ∧ sortK l ks = some od ∧ Q od e1) : WE C (.skey f a) e Q := by
  obtain ⟨x, e1, h1, l, ks, od, hl, hk, ho, q⟩ := q
  exact ⟨od, e1, by simp only [ev, h1, Out.bind, hl, hk, Option.bind_some, ho], q⟩
/-! iteration -/
theorem wi_seq {a : ME} {Q : List D → Env → Prop} (q : WE C a e fun x e1 => TD x fun d => ∃ l, isq d = some l ∧ Q l e1) : WI C (.seq a) e Q := by
  obtain ⟨x, e1, h1, l, hl, q⟩ := q
  refine ⟨l, e1, ?_, q⟩
  simp only [evi, h1, Out.bind]
  revert hl
  cases x.toD <;> simp [isq, Out.opt]
theorem wi_enum {a : ME} {Q : List D → Env → Prop} (q : WE C a e fun x e1 => TD x fun d => ∃ l, d = .lst l ∧ Q (enumD l) e1) : WI C (.enum a) e Q := by
  obtain ⟨x, e1, h1, l, hl, q⟩ := q
  exact ⟨_, e1, by simp only [evi, h1, Out.bind, hl], q⟩
theorem wt_none {Q : Bool → Env → Prop} (q : Q true e) : WT C .none e Q := ⟨true, e, rfl, q⟩
theorem wt_some {a : ME} {Q : Bool → Env → Prop} (q : WE C a e fun x e1 => ∃ k, truD x.toD = some k ∧ Q k e1) : WT C (.some a) e Q := by
  obtain ⟨x, e1, h1, k, hk, q⟩ := q
  exact ⟨k, e1, by simp only [evo, h1, Out.bind, hk, Out.opt], q⟩
/-! statements -/
theorem ws_nil (q : K (.nx e)) : WSs C .nil e K := q
theorem ws_cons {s : MS} {l : MSs} (q : WS C s e (thenK C l K)) : WSs C (.cons s l) e K := by
  unfold WS at q
  unfold WSs
  simp only [exs]
  revert q
  cases ex C s e <;> exact fun q => q
theorem tk_nx {l : MSs} (q : WSs C l e K) : thenK C l K (.nx e) := q
theorem tk_rt {l : MSs} {r : OD} (q : K (.rt r e)) : thenK C l K (.rt r e) := q
theorem tk_bk {l : MSs} (q : K (.bk e)) : thenK C l K (.bk e) := q
theorem tk_ct {l : MSs} (q : K (.ct e)) : thenK C l K (.ct e) := q
theorem ws_asg {i : Nat} {a : ME} (q : WE C a e fun x e1 => i < e1.length ∧ K (.nx (e1.set i (some x)))) : WS C (.asg i a) e K := by
  obtain ⟨x, e1, h1, h2, q⟩ := q
  unfold WS
  simp only [ex, h1, SOut.of, if_pos h2]
  exact q
theorem ws_asgT {is : List Nat} {a : ME} (q : WE C a e fun x e1 => TD x fun d => ∃ e2, setT is false d e1 = some e2 ∧ K (.nx e2)) : WS C (.asgT is a) e K := by
  obtain ⟨x, e1, h1, e2, h2, q⟩ := q
  unfold WS
  simp only [ex, h1, SOut.of, h2]
  exact q
theorem ws_exp {a : ME} (q : WE C a e fun _ e1 => K (.nx e1)) : WS C (.exp a) e K := by
  obtain ⟨x, e1, h1, q⟩ := q
  unfold WS
  simp only [ex, h1, SOut.of]
  exact q
/-- x.append(v), v shared -/
theorem ws_app {i : Nat} {a : ME} {ds0 : List D} (h : e[i]? = some (some (.ol (ds0.map .s)))) (q : WE C a e fun x e1 => TD x fun d => ∃ ds, e1[i]? = some (some (.ol (List.map OD.s ds))) ∧ ds.length < sizeLine ∧ K (.nx (e1.set i (some (.ol ((ds ++ [d]).map .s)))))) : WS C (.app false i a) e K := by
  obtain ⟨x, e1, h1, ds, h2, h3, q⟩ := q
  unfold WS
  simp only [ex, h, isOl, if_true, h1, SOut.of, h2, List.length_map, if_pos h3]
  simpa [asArg] using q
theorem ws_ext {i : Nat} {a : ME} {ds0 : List D} (h : e[i]? = some (some (.ol (ds0.map .s)))) (q : WE C a e fun x e1 => TD x fun d => ∃ ds r, e1[i]? = some (some (.ol (List.map OD.s ds))) ∧ (d = .lst r ∨ d = .tup r) ∧ ds.length + r.length ≤ sizeLine ∧ K (.nx (e1.set i (some (.ol ((ds ++ r).map .s)))))) : WS C (.ext i a) e K := by
  obtain ⟨x, e1, h1, ds, r, h2, hr, h3, q⟩ := q
  unfold WS
  rcases hr with hr | hr
  · simp only [ex, h, isOl, if_true, h1, SOut.of, h2, hr, List.length_map, if_pos h3]
    simpa using q
  · simp only [ex, h, isOl, if_true, h1, SOut.of, h2, hr, List.length_map, if_pos h3]
    simpa using q
theorem ws_if {c : ME} {a b : MSs} (q : WE C c e fun x e1 => ∃ k, truD x.toD = some k ∧ if k = true then WSs C a e1 K else WSs C b e1 K) : WS C (.ifs c a b) e K := by
  obtain ⟨x, e1, h1, k, hk, q⟩ := q
  unfold WS
  simp only [ex, h1, SOut.of, hk]
  cases k <;> exact q
theorem ws_ret {a : ME} (q : WE C a e fun x e1 => K (.rt x e1)) : WS C (.ret a) e K := by
  obtain ⟨x, e1, h1, q⟩ := q
  unfold WS
  simp only [ex, h1, SOut.of]
  exact q
theorem ws_retN (q : K (.rt (.s .non) e)) : WS C .retN e K := q
theorem ws_brk (q : K (.bk e)) : WS C .brk e K := q
theorem ws_cnt (q : K (.ct e)) : WS C .cnt e K := q
theorem ws_pas (q : K (.nx e)) : WS C .pas e K := q
/-- tests that are told -/
theorem t_dec {P : Prop} [Decidable P] {A B : Prop} (h1 : P → A) (h2 : ¬ P → B) : ∃ k, truD (OD.s (.bl (decide P))).toD = some k ∧ if k = true then A else B := by
  refine ⟨decide P, rfl, ?_⟩
  by_cases h : P
  · simp only [h, decide_true, if_true]; exact h1 h
  · simp only [h, decide_false]; exact h2 h
theorem t_bool {b : Bool} {A B : Prop} (h1 : b = true → A) (h2 : b = false → B) : ∃ k, truD (OD.s (.bl b)).toD = some k ∧ if k = true then A else B := by
  refine ⟨b, rfl, ?_⟩
  cases b
  · exact h2 rfl
  · exact h1 rfl
theorem b_dec {P : Prop} [Decidable P] {A B : Prop} (h1 : P → A) (h2 : ¬ P → B) : ∃ k, (OD.s (.bl (decide P))).boo = some k ∧ if k = true then A else B := t_dec h1 h2
theorem b_bool {b : Bool} {A B : Prop} (h1 : b = true → A) (h2 : b = false → B) : ∃ k, (OD.s (.bl b)).boo = some k ∧ if k = true then A else B := t_bool h1 h2
theorem b_some {b : Bool} {R : Bool → Prop} (h : R b) : ∃ k, (OD.s (.bl b)).boo = some k ∧ R k := ⟨b, rfl, h⟩
theorem t_some {b : Bool} {R : Bool → Prop} (h : R b) : ∃ k, truD (OD.s (.bl b)).toD = some k ∧ R k := ⟨b, rfl, h⟩
/-! loops -/
theorem for_inv {t : List Nat} {one : Bool} {b : Env → SOut} {K : SOut → Prop} (I : Nat → Env → Prop) : ∀ (l : List D) (i : Nat) (e : Env), I i e →
    (∀ (j : Nat) (d : D) (e : Env), l[j]? = some d → I (i + j) e → ∃ e1, setT t one d e = some e1 ∧ (match b e1 with
      | .nx e2 => I (i + j + 1) e2
      | .ct e2 => I (i + j + 1) e2
      | .bk e2 => K (.nx e2)
      | r => K r)) → (∀ e, I (i + l.length) e → K (.nx e)) → K (runFor t one b l e)
  | [], i, e, h, _, d => by simp only [runFor]; exact d e (by simpa using h)
  | x :: l, i, e, h, s, d => by
    obtain ⟨e1, h1, q⟩ := s 0 x e (by simp) (by simpa using h)
    simp only [runFor, h1]
    have rest : ∀ e2, I (i + 1) e2 → K (runFor t one b l e2) := fun e2 h2 =>
      for_inv I l (i + 1) e2 h2 (fun j d e hd hI => by
        have := s (j + 1) d e (by simpa using hd) (by rw [show i + (j + 1) = i + 1 + j by omega]; exact hI)
        rw [show i + (j + 1) + 1 = i + 1 + j + 1 by omega] at this
        exact this) fun e hI => d e (by rw [List.length_cons, show i + (l.length + 1) = i + 1 + l.length by omega]; exact hI)
    revert q
    cases b e1 with
    | nx e2 => exact fun q => rest e2 q
    | ct e2 => exact fun q => rest e2 q
    | bk e2 => exact fun q => q
    | rt r e2 => exact fun q => q
    | exc c e2 => exact fun q => q
    | bad => exact fun q => q
/-- how a turn of a loop ends -/
def turnK (I : Env → Prop) (K : SOut → Prop) : SOut → Prop
  | .nx e => I e
  | .ct e => I e
  | .bk e => K (.nx e)
  | .rt r e => K (.rt r e)
  | .exc c e => K (.exc c e)
  | .bad => K .bad
theorem ws_for {t : List Nat} {one : Bool} {it : MI} {b : MSs} (q : WI C it e fun l e1 => ∃ I : Nat → Env → Prop, I 0 e1 ∧
    (∀ (j : Nat) (d : D) (e : Env), l[j]? = some d → I j e → ∃ e1, setT t one d e = some e1 ∧ WSs C b e1 (turnK (I (j + 1)) K)) ∧ ∀ e, I l.length e → K (.nx e)) : WS C (.for_ t one it b) e K := by
  obtain ⟨l, e1, h1, I, i0, st, fin⟩ := q
  unfold WS
  simp only [ex, h1, SOut.of]
  refine for_inv I l 0 e1 i0 (fun j d e hd hI => ?_) fun e hI => fin e (by simpa using hI)
  rw [Nat.zero_add] at hI
  obtain ⟨e2, h2, q⟩ := st j d e hd hI
  refine ⟨e2, h2, ?_⟩
  unfold WSs at q
  rw [Nat.zero_add]
  revert q
  cases exs C b e2 <;> exact fun q => q
theorem whl_inv {tst : Env → Out OD} {b : Env → SOut} {K : SOut → Prop} (I : Nat → Env → Prop)
    (s : ∀ (m : Nat) (e : Env), I (m + 1) e → ∃ od e1 k, tst e = .ok od e1 ∧ truD od.toD = some k ∧ if k = true then (match b e1 with
      | .nx e2 => ∃ m', m' ≤ m ∧ I m' e2
      | .ct e2 => ∃ m', m' ≤ m ∧ I m' e2
      | .bk e2 => K (.nx e2)
      | r => K r) else K (.nx e1)) (z : ∀ e, ¬ I 0 e) : ∀ (n m : Nat) (e : Env), m ≤ n → I m e → K (runWhile tst b n e)
  | n, 0, e, h, i => absurd i (z e)
  | 0, m + 1, e, h, i => by omega
  | n + 1, m + 1, e, h, i => by
    obtain ⟨od, e1, k, h1, h2, q⟩ := s m e i
    simp only [runWhile, h1, h2]
    cases k with
    | false => exact q
    | true =>
      rw [if_pos rfl] at q
      revert q
      cases b e1 with
      | nx e2 => rintro ⟨m', hm, q⟩; exact whl_inv I s z n m' e2 (by omega) q
      | ct e2 => rintro ⟨m', hm, q⟩; exact whl_inv I s z n m' e2 (by omega) q
      | bk e2 => exact fun q => q
      | rt r e2 => exact fun q => q
      | exc c e2 => exact fun q => q
      | bad => exact fun q => q
theorem ws_whl {n : Nat} {c : ME} {b : MSs} (I : Nat → Env → Prop) (m : Nat) (hm : m < n) (i0 : I m e)
    (s : ∀ (m : Nat) (e : Env), I m e → WE C c e fun x e1 => ∃ k, truD x.toD = some k ∧ if k = true then WSs C b e1 (turnK (fun e2 => ∃ m', m' < m ∧ I m' e2) K) else K (.nx e1)) : WS C (.whl n c b) e K := by
  unfold WS
  simp only [ex]
  refine whl_inv (fun m e => ∃ m', m = m' + 1 ∧ I m' e) (fun m e hI => ?_) (fun e h => by obtain ⟨_, h, _⟩ := h; omega) n (m + 1) e (by omega) ⟨m, rfl, i0⟩
  obtain ⟨m', hm', hI⟩ := hI
  obtain rfl : m = m' := by omega
  obtain ⟨x, e1, h1, k, hk, q⟩ := s _ e hI
  refine ⟨x, e1, k, h1, hk, ?_⟩
  cases k with
  | false => exact q
  | true =>
    rw [if_pos rfl] at q ⊢
    unfold WSs at q
    revert q
    cases exs C b e1 with
    | nx e2 => rintro ⟨m', hm, q⟩; exact ⟨m' + 1, by omega, m', rfl, q⟩
    | ct e2 => rintro ⟨m', hm, q⟩; exact ⟨m' + 1, by omega, m', rfl, q⟩
    | bk e2 => exact fun q => q
    | rt r e2 => exact fun q => q
    | exc c e2 => exact fun q => q
    | bad => exact fun q => q
/-- a def's body, from its rules -/
def retK (P : OD → Prop) : SOut → Prop
  | .nx _ => P (.s .non)
  | .rt r _ => P r
  | _ => False
theorem call_ok {T : Nat → Option Fn} {f d : Nat} {F : Fn} {ods : List OD} {P : OD → Prop} (hT : T f = some F) (hn : ods.length = F.np) (q : WSs (evF T d) F.body (ods.map some ++ List.replicate (F.ns - F.np) none) (retK P)) :
    ∃ r, evF T (d + 1) f ods = .ok r ∧ P r := by
  unfold WSs at q
  simp only [evF_succ, hT, callF, if_pos hn]
  revert q
  cases exs (evF T d) F.body (ods.map some ++ List.replicate (F.ns - F.np) none) with
  | nx e => exact fun q => ⟨_, rfl, q⟩
  | rt r e => exact fun q => ⟨_, rfl, q⟩
  | bk e => exact fun q => q.elim
  | ct e => exact fun q => q.elim
  | exc c e => exact fun q => q.elim
  | bad => exact fun q => q.elim
end
end MW
namespace MW
open L2 PyProof.Rows PySem.Spec PySem
section
variable {Q : OD → Prop}
theorem r1_rfl {p : P1} {d : D} {od : OD} (h : p1Sem p d = some od) (q : Q od) : R1 p d Q := ⟨od, h, q⟩
theorem r2_rfl {p : P2} {a b : D} {od : OD} (h : p2Sem p a b = some od) (q : Q od) : R2 p a b Q := ⟨od, h, q⟩
theorem r1_neg {i : Int} (q : Q (.s (.int (-i)))) : R1 .neg (.int i) Q := ⟨_, rfl, q⟩
theorem r1_lenL {l : List D} (q : Q (.s (.int l.length))) : R1 .len (.lst l) Q := ⟨_, rfl, q⟩
theorem r1_lenS {l : List D} (q : Q (.s (.int l.length))) : R1 .len (.scr l) Q := ⟨_, rfl, q⟩
theorem r1_lenT {l : List D} (q : Q (.s (.int l.length))) : R1 .len (.tup l) Q := ⟨_, rfl, q⟩
theorem r1_str {i : Int} (h : i.natAbs.log2 < 1920) (q : Q (.s (.str (toString i)))) : R1 .strOf (.int i) Q := ⟨_, if_pos h, q⟩
theorem asInts_map : ∀ ns : List Int, asInts (ns.map .int) = some ns
  | [] => rfl
  | i :: ns => by simp only [List.map_cons, asInts, asInts_map ns, Option.map_some]
theorem asBls_map : ∀ ns : List Bool, asBls (ns.map .bl) = some ns
  | [] => rfl
  | i :: ns => by simp only [List.map_cons, asBls, asBls_map ns, Option.map_some]
theorem asStrs_map : ∀ ns : List Str, asStrs (ns.map .str) = some ns
  | [] => rfl
  | i :: ns => by simp only [List.map_cons, asStrs, asStrs_map ns, Option.map_some]
theorem r1_min {x : Int} {r : List Int} (q : Q (.s (.int (r.foldl minI x)))) : R1 .minL (.lst ((x :: r).map .int)) Q := ⟨_, by simp only [p1Sem, asInts_map], q⟩
theorem r1_max {x : Int} {r : List Int} (q : Q (.s (.int (r.foldl maxI x)))) : R1 .maxL (.lst ((x :: r).map .int)) Q := ⟨_, by simp only [p1Sem, asInts_map], q⟩
theorem r1_sum {r : List Int} (q : Q (.s (.int r.sum))) : R1 .sumL (.lst (r.map .int)) Q := ⟨_, by simp only [p1Sem, asInts_map, Option.map_some], q⟩
theorem r1_all {bs : List Bool} (q : Q (.s (.bl (bs.all id)))) : R1 .allL (.lst (bs.map .bl)) Q := ⟨_, by simp only [p1Sem, asBls_map, Option.map_some], q⟩
theorem r1_any {bs : List Bool} (q : Q (.s (.bl (bs.any id)))) : R1 .anyL (.lst (bs.map .bl)) Q := ⟨_, by simp only [p1Sem, asBls_map, Option.map_some], q⟩
theorem r2_add {i j : Int} (q : Q (.s (.int (i + j)))) : R2 .add (.int i) (.int j) Q := ⟨_, rfl, q⟩
theorem r2_addS {i j : Str} (h : i.length + j.length ≤ sizeLine) (q : Q (.s (.str (i ++ j)))) : R2 .add (.str i) (.str j) Q := ⟨_, if_pos h, q⟩
theorem r2_addL {i j : List D} (h : i.length + j.length ≤ sizeLine) (q : Q (.ol ((i ++ j).map .s))) : R2 .add (.lst i) (.lst j) Q := ⟨_, if_pos h, q⟩
theorem r2_sub {i j : Int} (q : Q (.s (.int (i - j)))) : R2 .sub (.int i) (.int j) Q := ⟨_, rfl, q⟩
theorem r2_mul {i j : Int} (h : (-(2 ^ 64) < i ∧ i < 2 ^ 64) ∨ (-(2 ^ 64) < j ∧ j < 2 ^ 64)) (q : Q (.s (.int (i * j)))) : R2 .mul (.int i) (.int j) Q := ⟨_, if_pos (.inl h), q⟩
theorem r2_mulW {i j : Int} (h : i.natAbs.log2 + j.natAbs.log2 < 1000000) (q : Q (.s (.int (i * j)))) : R2 .mul (.int i) (.int j) Q := ⟨_, if_pos (.inr h), q⟩
theorem r2_mod {i j : Int} (h : 0 < j) (q : Q (.s (.int (i % j)))) : R2 .mod (.int i) (.int j) Q := ⟨_, if_pos h, q⟩
theorem r2_fdiv {i j : Int} (h : 0 < j ∧ j < 1073741824) (q : Q (.s (.int (i / j)))) : R2 .fdiv (.int i) (.int j) Q := ⟨_, if_pos h, q⟩
theorem r2_pow {i j : Int} (h : 0 ≤ j ∧ j ≤ 1000000 ∧ i.natAbs < 2 ^ 64) (q : Q (.s (.int (i ^ j.toNat)))) : R2 .pow (.int i) (.int j) Q := ⟨_, if_pos h, q⟩
theorem r2_lt {i j : Int} (q : Q (.s (.bl (decide (i < j))))) : R2 .lt (.int i) (.int j) Q := ⟨_, rfl, q⟩
theorem r2_le {i j : Int} (q : Q (.s (.bl (decide (i ≤ j))))) : R2 .le (.int i) (.int j) Q := ⟨_, rfl, q⟩
theorem r2_gt {i j : Int} (q : Q (.s (.bl (decide (j < i))))) : R2 .gt (.int i) (.int j) Q := ⟨_, rfl, q⟩
theorem r2_ge {i j : Int} (q : Q (.s (.bl (decide (j ≤ i))))) : R2 .ge (.int i) (.int j) Q := ⟨_, rfl, q⟩
theorem eqD_int (i j : Int) : eqD (.int i) (.int j) = some (decide (i = j)) := rfl
theorem eqD_str (i j : Str) : eqD (.str i) (.str j) = some (decide (i = j)) := rfl
theorem r2_eqI {i j : Int} (q : Q (.s (.bl (decide (i = j))))) : R2 .eq (.int i) (.int j) Q := ⟨_, by simp only [p2Sem, eqD_int, Option.map_some], q⟩
theorem r2_neI {i j : Int} (q : Q (.s (.bl (decide (i ≠ j))))) : R2 .ne (.int i) (.int j) Q := ⟨_, by simp only [p2Sem, eqD_int, Option.map_some, decide_not, ne_eq], q⟩
theorem r2_eqS {i j : Str} (q : Q (.s (.bl (decide (i = j))))) : R2 .eq (.str i) (.str j) Q := ⟨_, by simp only [p2Sem, eqD_str, Option.map_some], q⟩
theorem r2_neS {i j : Str} (q : Q (.s (.bl (decide (i ≠ j))))) : R2 .ne (.str i) (.str j) Q := ⟨_, by simp only [p2Sem, eqD_str, Option.map_some, decide_not, ne_eq], q⟩
theorem flVs_ints : ∀ ns : List Int, flVs (ns.map .int) = some (ns.map .int)
  | [] => rfl
  | i :: ns => by simp only [List.map_cons, flVs, flV, flVs_ints ns]
theorem inV_ints (i : Int) : ∀ ns : List Int, inV (.int i) (ns.map .int) = decide (i ∈ ns)
  | [] => by simp [inV]
  | j :: ns => by
    have ih := inV_ints i ns
    unfold inV at ih ⊢
    rw [List.map_cons, List.any_cons, ih]
    have e : eqV (.int j) (.int i) = decide (j = i) := rfl
    rw [e]
    by_cases h : j = i
    · subst h
      rw [decide_eq_true rfl, Bool.true_or]
      exact (decide_eq_true List.mem_cons_self).symm
    · rw [decide_eq_false h, Bool.false_or]
      by_cases h2 : i ∈ ns
      · rw [decide_eq_true h2, decide_eq_true (List.mem_cons_of_mem _ h2)]
      · rw [decide_eq_false h2, decide_eq_false fun z => (List.mem_cons.mp z).elim (fun e => h e.symm) h2]
theorem r2_inI {i : Int} {ns : List Int} (q : Q (.s (.bl (decide (i ∈ ns))))) : R2 .inn (.int i) (.lst (ns.map .int)) Q :=
  ⟨_, by simp only [p2Sem, memD, isq, Option.bind_some, inD, flV, flVs_ints, inV_ints, Option.map_some], q⟩
theorem r2_ninI {i : Int} {ns : List Int} (q : Q (.s (.bl (decide (i ∉ ns))))) : R2 .notin (.int i) (.lst (ns.map .int)) Q :=
  ⟨_, by simp only [p2Sem, memN, memD, isq, Option.bind_some, inD, flV, flVs_ints, inV_ints, Option.map_some, decide_not], q⟩
theorem r2_idxL {l : List D} {i : Int} {d : D} (h : atI l i = some d) (q : Q (.s d)) : R2 .idx (.lst l) (.int i) Q := ⟨_, by simp only [p2Sem, idxD, isq, Option.bind_some, h, Option.map_some], q⟩
theorem r2_idxS {l : List D} {i : Int} {d : D} (h : atI l i = some d) (q : Q (.s d)) : R2 .idx (.scr l) (.int i) Q := ⟨_, by simp only [p2Sem, idxD, isq, Option.bind_some, h, Option.map_some], q⟩
theorem r2_idxT {l : List D} {i : Int} {d : D} (h : atI l i = some d) (q : Q (.s d)) : R2 .idx (.tup l) (.int i) Q := ⟨_, by simp only [p2Sem, idxD, isq, Option.bind_some, h, Option.map_some], q⟩
theorem r2_max {i j : Int} (q : Q (.s (.int (maxI i j)))) : R2 .max2 (.int i) (.int j) Q := ⟨_, rfl, q⟩
theorem r2_min {i j : Int} (q : Q (.s (.int (minI i j)))) : R2 .min2 (.int i) (.int j) Q := ⟨_, rfl, q⟩
theorem atI_of {α : Type} {l : List α} {i : Int} (h0 : 0 ≤ i) (h1 : i < l.length) : ∃ d, l[i.toNat]? = some d ∧ atI l i = some d := by
  have hj : i.toNat < l.length := by omega
  refine ⟨l[i.toNat], List.getElem?_eq_getElem hj, ?_⟩
  unfold atI ixN
  rw [if_pos h0, if_pos h1, Option.bind_some, List.getElem?_eq_getElem hj]
theorem atI_mem {α : Type} {l : List α} {i : Int} {d : α} (h : atI l i = some d) : d ∈ l := by
  unfold atI at h
  simp only [Option.bind_eq_some_iff] at h
  obtain ⟨j, _, h⟩ := h
  exact List.mem_of_getElem? h
end
end MW
namespace MW
open L2 PyProof.Rows PySem.Spec PySem
section
variable {Q : OD → Prop}
theorem r1_tupT {l : List D} (q : Q (.s (.bl true))) : R1 .isTup (.tup l) Q := ⟨_, rfl, q⟩
theorem r1_tupI {l : Int} (q : Q (.s (.bl false))) : R1 .isTup (.int l) Q := ⟨_, rfl, q⟩
theorem r1_strS {l : Str} (q : Q (.s (.bl true))) : R1 .isStr (.str l) Q := ⟨_, rfl, q⟩
theorem r1_tupOfL {l : List D} (q : Q (.s (.tup l))) : R1 .tupOf (.lst l) Q := ⟨_, rfl, q⟩
theorem r1_intB {b : Bool} (q : Q (.s (.int (if b then 1 else 0)))) : R1 .intOf (.bl b) Q := ⟨_, rfl, q⟩
theorem t_true {A B : Prop} (h : A) : ∃ k, truD (OD.s (.bl true)).toD = some k ∧ if k = true then A else B := ⟨true, rfl, h⟩
theorem t_false {A B : Prop} (h : B) : ∃ k, truD (OD.s (.bl false)).toD = some k ∧ if k = true then A else B := ⟨false, rfl, h⟩
theorem t_ntrue {A B : Prop} (h : B) : ∃ k, truD (OD.s (.bl (!true))).toD = some k ∧ if k = true then A else B := ⟨false, rfl, h⟩
theorem t_nfalse {A B : Prop} (h : A) : ∃ k, truD (OD.s (.bl (!false))).toD = some k ∧ if k = true then A else B := ⟨true, rfl, h⟩
theorem b_true {A B : Prop} (h : A) : ∃ k, (OD.s (.bl true)).boo = some k ∧ if k = true then A else B := ⟨true, rfl, h⟩
theorem b_false {A B : Prop} (h : B) : ∃ k, (OD.s (.bl false)).boo = some k ∧ if k = true then A else B := ⟨false, rfl, h⟩
theorem b_ntrue {A B : Prop} (h : B) : ∃ k, (OD.s (.bl (!true))).boo = some k ∧ if k = true then A else B := ⟨false, rfl, h⟩
theorem b_nfalse {A B : Prop} (h : A) : ∃ k, (OD.s (.bl (!false))).boo = some k ∧ if k = true then A else B := ⟨true, rfl, h⟩
end
end MW
namespace MW
open L2 PyProof.Rows PySem.Spec PySem
/-- but for a comprehension's own names, e is e0 -/
def keptE (own : List Nat) (e0 e : Env) : Prop := wipeOk own e = true ∧ wipeE own e = wipeE own e0
theorem back_kept {own : List Nat} {e0 e : Env} (h : keptE own e0 e) : backE e0 own e = e0 := by
  have hl : e.length = e0.length := by
    have := congrArg List.length h.2
    rwa [wipeE_len, wipeE_len] at this
  apply List.ext_getElem?
  intro i
  rw [backE_get]
  by_cases hi : i ∈ own ∧ i < e.length
  · rw [if_pos hi, List.getD_eq_getElem?_getD]
    have : i < e0.length := by omega
    rw [List.getElem?_eq_getElem this]
    rfl
  · rw [if_neg hi]
    have q := congrArg (fun l : Env => l[i]?) h.2
    simp only [wipeE_get, if_neg hi] at q
    rw [hl] at hi
    rw [if_neg hi] at q
    exact q
section
variable {C : CallS} {e : Env} {Q : OD → Env → Prop} {K : SOut → Prop}
theorem comp_run {own t : List Nat} {one : Bool} {cond : MO} {elt : ME} {e0 : Env} : ∀ (l : List D) (g : List (Option D)) (acc : List OD) (e : Env), keptE own e0 e → acc.length + l.length ≤ sizeLine → g.length = l.length →
    (∀ (j : Nat) (d : D) (o : Option D), l[j]? = some d → g[j]? = some o → ∃ e1, setT t one d (wipeE own e0) = some e1 ∧ WT C cond e1 fun k e2 => if k = true then WE C elt e2 (fun x e3 => TD x fun d' => o = some d' ∧ keptE own e0 e3) else (o = none ∧ keptE own e0 e2)) →
    ∃ e', compRun own t one (evo C cond) (sealO false (ev C elt)) l acc e = .ok (acc ++ (g.filterMap id).map .s) e' ∧ keptE own e0 e'
  | [], g, acc, e, h, _, hg, _ => by
    have : g = [] := List.eq_nil_of_length_eq_zero hg
    subst this
    exact ⟨e, by simp [compRun], h⟩
  | d :: l, [], acc, e, h, _, hg, _ => by simp at hg
  | d :: l, o :: g, acc, e, h, hz, hg, s => by
    have hz : acc.length + (l.length + 1) ≤ sizeLine := by simpa using hz
    obtain ⟨e1, h1, k, e2, h2, q⟩ := s 0 d o (by simp) (by simp)
    have st : ∀ (j : Nat) (d : D) (o : Option D), l[j]? = some d → g[j]? = some o → ∃ e1, setT t one d (wipeE own e0) = some e1 ∧ WT C cond e1 fun k e2 => if k = true then WE C elt e2 (fun x e3 => TD x fun d' => o = some d' ∧ keptE own e0 e3) else (o = none ∧ keptE own e0 e2) :=
      fun j d o hd ho => s (j + 1) d o (by simpa using hd) (by simpa using ho)
    have w0 : setT t one d (wipeE own e) = some e1 := by rw [h.2]; exact h1
    simp only [compRun, if_pos h.1, w0, h2]
    cases k with
    | true =>
      rw [if_pos rfl] at q
      obtain ⟨x, e3, h3, ho, hk⟩ := q
      have hs : sealO false (ev C elt) e2 = .ok (.s x.toD) e3 := by unfold sealO; rw [h3]; rfl
      obtain ⟨e', r, k'⟩ := comp_run l g (acc ++ [.s x.toD]) e3 hk (by simp; omega) (by simpa using hg) st
      refine ⟨e', ?_, k'⟩
      dsimp only
      rw [hs]
      dsimp only
      rw [if_pos (by omega), r, ho]
      simp
    | false =>
      rw [if_neg (by simp)] at q
      obtain ⟨ho, hk⟩ := q
      obtain ⟨e', r, k'⟩ := comp_run l g acc e2 hk (by omega) (by simpa using hg) st
      refine ⟨e', ?_, k'⟩
      dsimp only
      rw [r, ho]
      simp
theorem w_comp {own t : List Nat} {one : Bool} {it : MI} {cond : MO} {elt : ME} (q : WI C it e fun l e0 => wipeOk own e0 = true ∧ l.length ≤ sizeLine ∧ ∃ g : List (Option D), g.length = l.length ∧
    (∀ (j : Nat) (d : D) (o : Option D), l[j]? = some d → g[j]? = some o → ∃ e1, setT t one d (wipeE own e0) = some e1 ∧ WT C cond e1 fun k e2 => if k = true then WE C elt e2 (fun x e3 => TD x fun d' => o = some d' ∧ keptE own e0 e3) else (o = none ∧ keptE own e0 e2)) ∧
    Q (.ol ((g.filterMap id).map .s)) e0) : WE C (.comp false own t one it cond elt) e Q := by
  obtain ⟨l, e0, h1, hw, hz, g, hg, st, q⟩ := q
  obtain ⟨e', r, k⟩ := comp_run l g [] e0 ⟨hw, rfl⟩ (by simpa using hz) hg st
  refine ⟨_, e0, ?_, q⟩
  simp only [ev, h1, Out.bind, r, hw, k.1, Bool.and_self, if_true, List.nil_append, back_kept k]
theorem filterMap_some {α β : Type} (f : α → β) : ∀ l : List α, (l.map fun a => some (f a)).filterMap id = l.map f
  | [] => rfl
  | a :: l => by simp [filterMap_some f l]
/-- [f(x) for x in xs] -/
theorem w_map {α : Type} {own t : List Nat} {one : Bool} {it : MI} {elt : ME} (q : WI C it e fun l e0 => wipeOk own e0 = true ∧ ∃ (xs : List α) (i f : α → D), l = xs.map i ∧ xs.length ≤ sizeLine ∧
    (∀ (j : Nat) (x : α), xs[j]? = some x → ∃ e1, setT t one (i x) (wipeE own e0) = some e1 ∧ WE C elt e1 (fun v e3 => TD v fun d' => d' = f x ∧ keptE own e0 e3)) ∧
    Q (.ol ((xs.map f).map .s)) e0) : WE C (.comp false own t one it .none elt) e Q := by
  obtain ⟨l, e0, h1, hw, xs, i, f, rfl, hz, st, q⟩ := q
  refine w_comp ⟨_, e0, h1, hw, by simpa using hz, xs.map (fun x => some (f x)), by simp, fun j d o hd ho => ?_, by rw [filterMap_some]; exact q⟩
  rw [List.getElem?_map] at hd ho
  cases hx : xs[j]? with
  | none => rw [hx] at hd; cases hd
  | some x =>
    rw [hx] at hd ho
    cases hd
    cases ho
    obtain ⟨e1, h1, q⟩ := st j x hx
    obtain ⟨v, e3, h3, q1, q2⟩ := q
    exact ⟨e1, h1, true, e1, rfl, ⟨v, e3, h3, congrArg some q1.symm, q2⟩⟩
end
end MW
namespace MW
open L2 PyProof.Rows PySem.Spec PySem
theorem pj_str {x : Str} {B : Prop} (q : B) : pmTy .join (.str x) = true ∧ B := ⟨rfl, q⟩
theorem pm_joinL {z : Str} {ys : List Str} {Q : OD → Prop} (h : (ys.map (·.length)).sum + ys.length * z.length ≤ 16777216) (q : Q (.s (.str (Txt.join z ys)))) : ∃ od, pmSem .join (.str z) (.lst (ys.map .str)) = some od ∧ Q od :=
  ⟨_, by simp only [pmSem, isq, Option.bind_some, asStrs_map, if_pos h], q⟩
theorem join_is (z : Str) (l : List Str) : Txt.join z l = Str.join z l := StrLaws.glued_eq_join z l
theorem join_cons2 (z x y : Str) (r : List Str) : Txt.join z (x :: y :: r) = x ++ z ++ Txt.join z (y :: r) := by
  rw [join_is, join_is]
  rfl
theorem join_len (z : Str) (ys : List Str) : (Txt.join z ys).length ≤ (ys.map (·.length)).sum + ys.length * z.length := by
  rw [join_is]
  cases ys with
  | nil => exact Nat.zero_le _
  | cons a l =>
    rw [PyProof.Rows.len_join_cons, List.length_cons, Nat.add_mul]
    omega
def numS (i : Int) : Str := Str.ofString (toString i)
theorem numS_len {i : Int} {k : Nat} (hk : 0 < k) (h0 : 0 ≤ i) (h : i < 10 ^ k) : (numS i).length ≤ k + 1 := by
  unfold numS
  rw [PySem.ofString_length]
  refine int_text_length_le10 hk ?_
  have : ((i.natAbs : Nat) : Int) < ((10 ^ k : Nat) : Int) := by
    rw [Int.natAbs_of_nonneg h0]
    simpa using h
  exact_mod_cast this
theorem log2_small {i : Int} (h0 : 0 ≤ i) (h : i < 10 ^ 60) : i.natAbs.log2 < 1920 := by
  have h1 : i.natAbs < 2 ^ 1920 := by
    have : ((i.natAbs : Nat) : Int) < 2 ^ 1920 := by
      rw [Int.natAbs_of_nonneg h0]
      exact Int.lt_trans h (by decide +kernel)
    exact_mod_cast this
  by_cases hz : i.natAbs = 0
  · rw [hz]; decide
  · exact (Nat.log2_lt hz).mpr h1
theorem r1_numS {i : Int} {Q : OD → Prop} (h : i.natAbs.log2 < 1920) (q : Q (.s (.str (numS i)))) : R1 .strOf (.int i) Q := r1_str h q
end MW
namespace MW
open L2 PyProof.Rows PySem.Spec PySem
section
variable {C : CallS} {e : Env} {Q : OD → Env → Prop} {K : SOut → Prop}
def rngD (n : Nat) : List D := (List.range n).map fun (k : Nat) => .int (k : Nat)
theorem wi_rng {a : ME} {Q : List D → Env → Prop} (q : WE C a e fun x e1 => TD x fun d => ∃ n : Nat, d = .int n ∧ n < 1000000 ∧ Q (rngD n) e1) : WI C (.rng1 a) e Q := by
  obtain ⟨x, e1, h1, n, hn, hz, q⟩ := q
  refine ⟨_, e1, ?_, q⟩
  simp only [evi, h1, Out.bind, hn]
  rw [if_pos (by omega)]
  rfl
theorem rngD_get {n j : Nat} {d : D} (h : (rngD n)[j]? = some d) : j < n ∧ d = .int j := by
  unfold rngD at h
  rw [List.getElem?_map] at h
  by_cases hj : j < n
  · rw [List.getElem?_range hj] at h
    cases h
    exact ⟨hj, rfl⟩
  · rw [List.getElem?_eq_none (by simpa using hj)] at h
    cases h
theorem rngD_len (n : Nat) : (rngD n).length = n := by simp [rngD]
theorem ws_rng {t : List Nat} {a : ME} {b : MSs} (q : WE C a e fun x e1 => TD x fun d => ∃ n : Nat, d = .int n ∧ n < 1000000 ∧ ∃ I : Nat → Env → Prop, I 0 e1 ∧
    (∀ (j : Nat) (e : Env), j < n → I j e → ∃ e1, setT t true (.int j) e = some e1 ∧ WSs C b e1 (turnK (I (j + 1)) K)) ∧ ∀ e, I n e → K (.nx e)) : WS C (.for_ t true (.rng1 a) b) e K := by
  obtain ⟨x, e1, h1, n, hn, hz, I, i0, st, fin⟩ := q
  refine ws_for (wi_rng ⟨x, e1, h1, n, hn, hz, I, i0, fun j d e hd hI => ?_, fun e hI => fin e (by rwa [rngD_len] at hI)⟩)
  obtain ⟨hj, rfl⟩ := rngD_get hd
  exact st j e hj hI
/-- [f(k) for k in range(n)] -/
theorem w_mapR {own t : List Nat} {a elt : ME} (q : WE C a e fun x e0 => TD x fun d => ∃ n : Nat, d = .int n ∧ n < 1000000 ∧ wipeOk own e0 = true ∧ ∃ f : Nat → D,
    (∀ k : Nat, k < n → ∃ e1, setT t true (.int k) (wipeE own e0) = some e1 ∧ WE C elt e1 (fun v e3 => TD v fun d' => d' = f k ∧ keptE own e0 e3)) ∧
    Q (.ol (((List.range n).map f).map .s)) e0) : WE C (.comp false own t true (.rng1 a) .none elt) e Q := by
  obtain ⟨x, e0, h1, n, hn, hz, hw, f, st, q⟩ := q
  refine w_map (α := Nat) (wi_rng ⟨x, e0, h1, n, hn, hz, hw, List.range n, fun (k : Nat) => .int (k : Nat), f, rfl, by rw [List.length_range]; exact Nat.le_trans (Nat.le_of_lt hz) (by decide), fun j k hk => ?_, q⟩)
  have hk2 : k ∈ List.range n := List.mem_of_getElem? hk
  exact st k (List.mem_range.mp hk2)
theorem atI_neg1 {α : Type} {l : List α} (h : l ≠ []) : ∃ d, d ∈ l ∧ atI l (-1) = some d := by
  cases l with
  | nil => exact absurd rfl h
  | cons x r =>
    have hj : r.length < (x :: r).length := by simp
    refine ⟨(x :: r)[r.length], List.getElem_mem hj, ?_⟩
    unfold atI ixN
    rw [if_neg (by decide), if_pos (by simp; omega), Option.bind_some]
    have : ((-1 : Int) + ((x :: r).length : Nat)).toNat = r.length := by simp; omega
    rw [this, List.getElem?_eq_getElem hj]
end
end MW
namespace MW
open L2 PyProof.Rows PySem.Spec PySem
theorem toPys_ints : ∀ ns : List Int, toPys (ns.map .int) = some (ns.map .int)
  | [] => rfl
  | i :: ns => by simp only [List.map_cons, toPys, toPy, toPys_ints ns]
theorem sortOk_of {ks : List PyData} (h1 : ∀ a ∈ ks, ∀ b ∈ ks, PySem.W.alike a b = true) (h2 : (∀ a ∈ ks, tupNE a = true) ∨ ∀ a ∈ ks, nonTup a = true) (h3 : ∀ a ∈ ks, a.depth ≤ 32) : sortOk ks = true := by
  unfold sortOk alikeB
  simp only [Bool.and_eq_true, Bool.or_eq_true, List.all_eq_true, decide_eq_true_eq]
  exact ⟨⟨h1, h2⟩, h3⟩
theorem sortOk_ints (ns : List Int) : sortOk (ns.map .int) = true := by
  refine sortOk_of (fun a ha b hb => ?_) (.inr fun a ha => ?_) fun a ha => ?_
  · obtain ⟨x, _, rfl⟩ := List.mem_map.mp ha
    obtain ⟨y, _, rfl⟩ := List.mem_map.mp hb
    rfl
  · obtain ⟨x, _, rfl⟩ := List.mem_map.mp ha
    rfl
  · obtain ⟨x, _, rfl⟩ := List.mem_map.mp ha
    exact Nat.zero_le _
/-- sorted by int keys: a rearrangement -/
theorem sortK_map {α : Type} (f : α → D) (xs : List α) (ns : List Int) (hl : ns.length = xs.length) (hz : xs.length ≤ sizeLine) : ∃ ys : List α, ys.Perm xs ∧ sortK (xs.map f) (ns.map .int) = some (.ol ((ys.map f).map .s)) := by
  refine ⟨((xs.zip (ns.map PyData.int)).mergeSort (PySem.W.dataLe false Prod.snd)).map Prod.fst, ?_, ?_⟩
  · have p := (List.mergeSort_perm (xs.zip (ns.map PyData.int)) (PySem.W.dataLe false Prod.snd)).map Prod.fst
    rw [List.map_fst_zip (by rw [List.length_map]; omega)] at p
    exact p
  · unfold sortK
    rw [toPys_ints]
    dsimp only
    rw [if_pos ⟨sortOk_ints ns, by rw [List.length_map]; exact hz, by rw [List.length_map, List.length_map]; exact hl⟩]
    have q := List.map_mergeSort (r := PySem.W.dataLe false (Prod.snd : α × PyData → PyData)) (s := PySem.W.dataLe false (Prod.snd : D × PyData → PyData)) (f := Prod.map f id) (l := xs.zip (ns.map PyData.int)) (fun _ _ _ _ => rfl)
    rw [← List.zip_map_left] at q
    rw [← q, List.map_map, List.map_map, List.map_map]
    rfl
def pairD (p : Int × Int) : D := .tup [.int p.1, .int p.2]
def pairP (p : Int × Int) : PyData := .tuple [.int p.1, .int p.2]
theorem toPys_pairs : ∀ ps : List (Int × Int), toPys (ps.map pairD) = some (ps.map pairP)
  | [] => rfl
  | p :: ps => by
    simp only [List.map_cons, toPys, toPys_pairs ps]
    rfl
theorem sortOk_pairs (ps : List (Int × Int)) : sortOk (ps.map pairP) = true := by
  refine sortOk_of (fun a ha b hb => ?_) (.inl fun a ha => ?_) fun a ha => ?_
  · obtain ⟨x, _, rfl⟩ := List.mem_map.mp ha
    obtain ⟨y, _, rfl⟩ := List.mem_map.mp hb
    rfl
  · obtain ⟨x, _, rfl⟩ := List.mem_map.mp ha
    rfl
  · obtain ⟨x, _, rfl⟩ := List.mem_map.mp ha
    show PyData.depth (.tuple [.int _, .int _]) ≤ 32
    simp [PyData.depth, PyData.depthAll]
theorem sortD_pairs (ps : List (Int × Int)) (hz : ps.length ≤ sizeLine) : ∃ qs : List (Int × Int), qs.Perm ps ∧ sortD (ps.map pairD) = some (.ol ((qs.map pairD).map .s)) := by
  refine ⟨ps.mergeSort (PySem.W.dataLe false fun p => keyOf (pairD p)), List.mergeSort_perm _ _, ?_⟩
  unfold sortD
  rw [toPys_pairs]
  dsimp only
  rw [if_pos ⟨sortOk_pairs ps, by rw [List.length_map]; exact hz⟩]
  have q := List.map_mergeSort (r := PySem.W.dataLe false fun p : Int × Int => keyOf (pairD p)) (s := PySem.W.dataLe false keyOf) (f := pairD) (l := ps) (fun _ _ _ _ => rfl)
  rw [q]
theorem r1_sortedP {ps : List (Int × Int)} {Q : OD → Prop} (hz : ps.length ≤ sizeLine) (q : ∀ qs : List (Int × Int), qs.Perm ps → Q (.ol ((qs.map pairD).map .s))) : R1 .sorted (.lst (ps.map pairD)) Q := by
  obtain ⟨qs, hp, h⟩ := sortD_pairs ps hz
  exact ⟨_, h, q qs hp⟩
end MW
namespace MW
open L2 PyProof.Rows PySem.Spec PySem
def allSh : MAs → Bool
  | .nil => true
  | .cons m _ l => !m && allSh l
theorem w_callS {C : CallS} {e : Env} {Q : OD → Env → Prop} {f : Nat} {l : MAs} (_h : allSh l = true) (q : WD C l e fun ds e1 => ∃ r, C f (ds.map .s) = .ok r ∧ Q r e1) : WE C (.call f l) e Q := w_call q
end MW
namespace MW
open L2 PyProof.Rows PySem.Spec PySem
theorem tn_nx {I : MW.Env → Prop} {K : SOut → Prop} {e : MW.Env} (q : I e) : turnK I K (.nx e) := q
theorem tn_ct {I : MW.Env → Prop} {K : SOut → Prop} {e : MW.Env} (q : I e) : turnK I K (.ct e) := q
theorem tn_bk {I : MW.Env → Prop} {K : SOut → Prop} {e : MW.Env} (q : K (.nx e)) : turnK I K (.bk e) := q
theorem tn_rt {I : MW.Env → Prop} {K : SOut → Prop} {e : MW.Env} {r : OD} (q : K (.rt r e)) : turnK I K (.rt r e) := q
theorem rk_rt {P : OD → Prop} {e : MW.Env} {r : OD} (q : P r) : retK P (.rt r e) := q
theorem rk_nx {P : OD → Prop} {e : MW.Env} (q : P (.s .non)) : retK P (.nx e) := q
end MW
namespace MW
open L2 PyProof.Rows PySem.Spec PySem
theorem al_set {i : Nat} {e : MW.Env} {R : Prop} (h : Nat.blt i e.length = true) (q : R) : i < e.length ∧ R := ⟨by simpa [Nat.blt_eq] using h, q⟩
theorem al_len {α : Type} {l : List α} {R : Prop} (h : Nat.ble l.length 1000 = true) (q : R) : l.length ≤ sizeLine ∧ R := ⟨Nat.le_trans (Nat.le_of_ble_eq_true h) (by decide), q⟩
theorem atI_getN {α : Type} {l : List α} {j : Nat} (h : j < l.length) : atI l (j : Int) = some l[j] := by
  unfold atI ixN
  rw [if_pos (by omega), if_pos (by omega), Option.bind_some]
  exact List.getElem?_eq_getElem h
theorem pairs_get {qs : List (Int × Int)} {j : Nat} (h : j < qs.length) : atI (qs.map pairD) (j : Int) = some (.tup [.int qs[j].1, .int qs[j].2]) := by
  rw [atI_getN (by simpa using h)]
  simp [pairD]
end MW
namespace MW
open L2 PyProof.Rows PySem.Spec PySem
/-! ### sorting, exactly -/
def leK {α : Type} (key : α → Int) (a b : α) : Bool := decide (key a ≤ key b)
def leP (p q : Int × Int) : Bool := decide (p.1 < q.1 ∨ (p.1 = q.1 ∧ p.2 ≤ q.2))
theorem sortK_int {α : Type} (f : α → D) (key : α → Int) (xs : List α) (hz : xs.length ≤ sizeLine) : sortK (xs.map f) (xs.map fun x => D.int (key x)) = some (.ol (((xs.mergeSort (leK key)).map f).map .s)) := by
  unfold sortK
  rw [show (xs.map fun x => D.int (key x)) = (xs.map key).map D.int by rw [List.map_map]; rfl, toPys_ints]
  dsimp only
  rw [if_pos ⟨sortOk_ints _, by rw [List.length_map]; exact hz, by rw [List.length_map, List.length_map, List.length_map]⟩]
  have e : (xs.map f).zip ((xs.map key).map PyData.int) = xs.map fun x => (f x, PyData.int (key x)) := by
    rw [List.map_map]
    induction xs with
    | nil => rfl
    | cons x xs ih =>
      simp only [List.map_cons, List.zip_cons_cons, List.length_cons] at hz ih ⊢
      rw [ih (by omega)]
      rfl
  rw [e]
  have q := List.map_mergeSort (r := PySem.W.dataLe false (fun x : α => PyData.int (key x))) (s := PySem.W.dataLe false (Prod.snd : D × PyData → PyData)) (f := fun x : α => (f x, PyData.int (key x))) (l := xs) (fun _ _ _ _ => rfl)
  rw [← q, PySem.W.dataLe_int, List.map_map, List.map_map]
  rfl
theorem sortD_pairsE (ps : List (Int × Int)) (hz : ps.length ≤ sizeLine) : sortD (ps.map pairD) = some (.ol (((ps.mergeSort leP).map pairD).map .s)) := by
  unfold sortD
  rw [toPys_pairs]
  dsimp only
  rw [if_pos ⟨sortOk_pairs ps, by rw [List.length_map]; exact hz⟩]
  have q := List.map_mergeSort (r := PySem.W.dataLe false fun p : Int × Int => keyOf (pairD p)) (s := PySem.W.dataLe false keyOf) (f := pairD) (l := ps) (fun _ _ _ _ => rfl)
  rw [← q]
  have e : (PySem.W.dataLe false fun p : Int × Int => keyOf (pairD p)) = leP := PySem.W.dataLe_ii Prod.fst Prod.snd
  rw [e]
theorem sortD_intsE (ns : List Int) (hz : ns.length ≤ sizeLine) : sortD (ns.map .int) = some (.ol (((ns.mergeSort (leK id)).map D.int).map .s)) := by
  unfold sortD
  rw [toPys_ints]
  dsimp only
  rw [if_pos ⟨sortOk_ints ns, by rw [List.length_map]; exact hz⟩]
  have q := List.map_mergeSort (r := PySem.W.dataLe false fun p : Int => keyOf (D.int p)) (s := PySem.W.dataLe false keyOf) (f := D.int) (l := ns) (fun _ _ _ _ => rfl)
  rw [← q]
  have e : (PySem.W.dataLe false fun p : Int => keyOf (D.int p)) = leK id := PySem.W.dataLe_int id
  rw [e]
section
variable {α : Type} {key : α → Int} {l : List α}
theorem leK_total (a b : α) : (leK key a b || leK key b a) = true := by
  unfold leK
  by_cases h : key a ≤ key b
  · simp [h]
  · simp [Int.le_of_lt (Int.not_le.mp h)]
theorem leK_trans (a b c : α) (h1 : leK key a b = true) (h2 : leK key b c = true) : leK key a c = true := by
  unfold leK at *
  simp only [decide_eq_true_eq] at *
  exact Int.le_trans h1 h2
theorem sortK_perm : (l.mergeSort (leK key)).Perm l := List.mergeSort_perm _ _
theorem sortK_sorted : (l.mergeSort (leK key)).Pairwise fun a b => key a ≤ key b :=
  (List.pairwise_mergeSort leK_trans leK_total l).imp fun h => by simpa [leK] using h
theorem leP_total (a b : Int × Int) : (leP a b || leP b a) = true := by
  unfold leP
  simp only [Bool.or_eq_true, decide_eq_true_eq]
  omega
theorem leP_trans (a b c : Int × Int) (h1 : leP a b = true) (h2 : leP b c = true) : leP a c = true := by
  unfold leP at *
  simp only [decide_eq_true_eq] at *
  omega
theorem sortP_perm {l : List (Int × Int)} : (l.mergeSort leP).Perm l := List.mergeSort_perm _ _
theorem sortP_sorted {l : List (Int × Int)} : (l.mergeSort leP).Pairwise fun a b => a.1 ≤ b.1 :=
  (List.pairwise_mergeSort leP_trans leP_total l).imp fun h => by
    unfold leP at h
    simp only [decide_eq_true_eq] at h
    omega
end
theorem r1_sortedPE {ps : List (Int × Int)} {Q : OD → Prop} (hz : ps.length ≤ sizeLine) (q : Q (.ol (((ps.mergeSort leP).map pairD).map .s))) : R1 .sorted (.lst (ps.map pairD)) Q := ⟨_, sortD_pairsE ps hz, q⟩
theorem r1_sortedI {ns : List Int} {Q : OD → Prop} (hz : ns.length ≤ sizeLine) (q : Q (.ol (((ns.mergeSort (leK id)).map D.int).map .s))) : R1 .sorted (.lst (ns.map D.int)) Q := ⟨_, sortD_intsE ns hz, q⟩
end MW
namespace MW
open L2 PyProof.Rows PySem.Spec PySem
theorem cut_hi (l : List D) (k : Nat) : cutD l none (some (k : Int)) = l.take k := by
  unfold cutD
  rw [HT.sIx_none, HT.sIx_nat, List.drop_zero, Nat.sub_zero]
  apply List.ext_getElem?
  intro i
  rw [List.getElem?_take, List.getElem?_take]
  by_cases h : i < k
  · by_cases h2 : i < l.length
    · rw [if_pos (by omega), if_pos h]
    · rw [List.getElem?_eq_none (by omega)]; simp
  · rw [if_neg (by omega), if_neg h]
theorem cut_lo (l : List D) (k : Nat) : cutD l (some (k : Int)) none = l.drop k := by
  unfold cutD
  rw [HT.sIx_none, HT.sIx_nat]
  rw [List.take_of_length_le (by rw [List.length_drop]; omega)]
  by_cases h : k ≤ l.length
  · rw [Nat.min_eq_left h]
  · rw [Nat.min_eq_right (by omega), List.drop_of_length_le (Nat.le_refl _), List.drop_of_length_le (by omega)]
theorem cut_both (l : List D) (i k : Nat) (h : i ≤ l.length) : cutD l (some (i : Int)) (some (k : Int)) = (l.take k).drop i := by
  unfold cutD
  rw [HT.sIx_nat, HT.sIx_nat, Nat.min_eq_left h, List.drop_take]
  apply List.ext_getElem?
  intro j
  rw [List.getElem?_take, List.getElem?_take, List.getElem?_drop]
  by_cases h1 : j < k - i
  · rw [if_pos h1]
    by_cases h2 : j < min k l.length - i
    · rw [if_pos h2]
    · rw [if_neg h2, List.getElem?_eq_none (by omega)]
  · rw [if_neg h1, if_neg (by omega)]
section
variable {Q : OD → Prop}
theorem r2_hiL {l : List D} {i : Int} {k : Nat} (h : i = (k : Int)) (q : Q (.ol ((l.take k).map .s))) : R2 .sliceHi (.lst l) (.int i) Q := by
  subst h
  exact ⟨_, by simp only [p2Sem, sliceSem, cut_hi], q⟩
theorem r2_loL {l : List D} {i : Int} {k : Nat} (h : i = (k : Int)) (q : Q (.ol ((l.drop k).map .s))) : R2 .sliceLo (.lst l) (.int i) Q := by
  subst h
  exact ⟨_, by simp only [p2Sem, sliceSem, cut_lo], q⟩
theorem r2_hiS {l : List D} {i : Int} {k : Nat} (h : i = (k : Int)) (q : Q (.ol ((l.take k).map .s))) : R2 .sliceHi (.scr l) (.int i) Q := by
  subst h
  exact ⟨_, by simp only [p2Sem, sliceSem, cut_hi], q⟩
theorem r2_loS {l : List D} {i : Int} {k : Nat} (h : i = (k : Int)) (q : Q (.ol ((l.drop k).map .s))) : R2 .sliceLo (.scr l) (.int i) Q := by
  subst h
  exact ⟨_, by simp only [p2Sem, sliceSem, cut_lo], q⟩
end
/-- how a branch of an if ends, where what follows is told by J -/
def joinK (J : MW.Env → Prop) (K : SOut → Prop) : SOut → Prop
  | .nx e => J e
  | .rt r e => K (.rt r e)
  | .bk e => K (.bk e)
  | .ct e => K (.ct e)
  | .exc c e => K (.exc c e)
  | .bad => K .bad
section
variable {C : CallS} {e : MW.Env} {J : MW.Env → Prop} {K : SOut → Prop}
theorem jn_nx (q : J e) : joinK J K (.nx e) := q
theorem jn_rt {r : OD} (q : K (.rt r e)) : joinK J K (.rt r e) := q
theorem jn_bk (q : K (.bk e)) : joinK J K (.bk e) := q
theorem jn_ct (q : K (.ct e)) : joinK J K (.ct e) := q
theorem ws_ifJ {c : ME} {a b l : MSs} (J : MW.Env → Prop) (q : WE C c e fun x e1 => ∃ k, truD x.toD = some k ∧ if k = true then WSs C a e1 (joinK J K) else WSs C b e1 (joinK J K)) (r : ∀ e, J e → WSs C l e K) : WS C (.ifs c a b) e (thenK C l K) := by
  refine ws_if ?_
  obtain ⟨x, e1, h1, k, hk, q⟩ := q
  refine ⟨x, e1, h1, k, hk, ?_⟩
  have key : ∀ o : SOut, joinK J K o → thenK C l K o := fun o => match o with
    | .nx e => fun q => r e q
    | .rt r e => fun q => q
    | .bk e => fun q => q
    | .ct e => fun q => q
    | .exc c e => fun q => q
    | .bad => fun q => q
  cases k with
  | true => rw [if_pos rfl] at q ⊢; exact key _ q
  | false => rw [if_neg Bool.false_ne_true] at q ⊢; exact key _ q
end
end MW
namespace MW
open L2 PyProof.Rows PySem.Spec PySem
/-! ### dicts, constants, signs -/
section
variable {C : CallS} {e : MW.Env} {Q : OD → MW.Env → Prop} {K : SOut → Prop}
theorem w_glb {x : Str} {d : D} (q : Q (.s d) e) : WE C (.glb x d) e Q := ⟨_, _, rfl, q⟩
theorem w_dnew (q : Q (.odk []) e) : WE C (.dnew false) e Q := ⟨_, _, rfl, q⟩
theorem w_dnewT (q : Q (.odt []) e) : WE C (.dnew true) e Q := ⟨_, _, rfl, q⟩
theorem w_get3 {a k d : ME} (q : WO C a e fun o e1 => ∃ l0, o.res e1 = some (.dk l0) ∧ WE C k e1 fun y e2 => TD y fun dy => ∃ kk, keyD dy = some kk ∧ WE C d e2 fun z e3 => TD z fun dz => ∃ l, o.res e3 = some (.dk l) ∧ Q (.s ((valO l kk).getD dz)) e3) : WE C (.get3 a k d) e Q := by
  obtain ⟨o, e1, h1, l0, hl0, y, e2, h2, kk, hk, z, e3, h3, l, hl, q⟩ := q
  exact ⟨_, e3, by simp only [ev, h1, Out.bind, hl0, h2, hk, h3, hl], q⟩
theorem wi_keys {a : ME} {Q : List D → MW.Env → Prop} (q : WE C a e fun x e1 => TD x fun d => ∃ l, d = .dk l ∧ Q (l.map fun p => dkey p.1) e1) : WI C (.keys a) e Q := by
  obtain ⟨x, e1, h1, l, hl, q⟩ := q
  exact ⟨_, e1, by simp only [evi, h1, Out.bind, hl], q⟩
theorem wi_chars {a : ME} {Q : List D → MW.Env → Prop} (q : WE C a e fun x e1 => TD x fun d => ∃ t, d = .str t ∧ Q (charsD t) e1) : WI C (.chars a) e Q := by
  obtain ⟨x, e1, h1, l, hl, q⟩ := q
  exact ⟨_, e1, by simp only [evi, h1, Out.bind, hl], q⟩
theorem wi_vals {a : ME} {Q : List D → MW.Env → Prop} (q : WE C a e fun x e1 => TD x fun d => ∃ l, d = .dk l ∧ Q (l.map fun p => p.2) e1) : WI C (.vals a) e Q := by
  obtain ⟨x, e1, h1, l, hl, q⟩ := q
  exact ⟨_, e1, by simp only [evi, h1, Out.bind, hl], q⟩
theorem wi_enumT {a : ME} {Q : List D → MW.Env → Prop} (q : WE C a e fun x e1 => TD x fun d => ∃ l, d = .tup l ∧ Q (enumD l) e1) : WI C (.enum a) e Q := by
  obtain ⟨x, e1, h1, l, hl, q⟩ := q
  exact ⟨_, e1, by simp only [evi, h1, Out.bind, hl], q⟩
theorem wi_zipT {a b : ME} {Q : List D → MW.Env → Prop} (q : WE C a e fun x e1 => WE C b e1 fun y e2 => TD x fun d => TD y fun d' => ∃ l r, d = .tup l ∧ d' = .tup r ∧ Q (zipD l r) e2) : WI C (.zip a b) e Q := by
  obtain ⟨x, e1, h1, y, e2, h2, l, r, hl, hr, q⟩ := q
  exact ⟨_, e2, by simp only [evi, h1, Out.bind, h2, hl, hr], q⟩
theorem wi_zipL {a b : ME} {Q : List D → MW.Env → Prop} (q : WE C a e fun x e1 => WE C b e1 fun y e2 => TD x fun d => TD y fun d' => ∃ l r, d = .lst l ∧ d' = .lst r ∧ Q (zipD l r) e2) : WI C (.zip a b) e Q := by
  obtain ⟨x, e1, h1, y, e2, h2, l, r, hl, hr, q⟩ := q
  exact ⟨_, e2, by simp only [evi, h1, Out.bind, h2, hl, hr], q⟩
/-- x[k] = v -/
theorem ws_setD {i : Nat} {k a : ME} (q : WE C a e fun x e1 => TD x fun d => isOdk e1[i]? = true ∧ WE C k e1 fun y e2 => TD y fun dy => ∃ l kk, e2[i]? = some (some (.odk l)) ∧ keyD dy = some kk ∧ l.length < sizeLine ∧ K (.nx (e2.set i (some (.odk (putD l kk (.s d))))))) : WS C (.setD i k a) e K := by
  obtain ⟨x, e1, h1, ho, y, e2, h2, l, kk, hl, hk, hz, q⟩ := q
  unfold WS
  simp only [ex, h1, SOut.of, ho, if_true, h2, hl, hk, if_pos hz]
  exact q
/-- x[k] = {} -/
theorem ws_setDN {i : Nat} {k : ME} (q : isOdk e[i]? = true ∧ WE C k e fun y e2 => TD y fun dy => ∃ l kk, e2[i]? = some (some (.odk l)) ∧ keyD dy = some kk ∧ l.length < sizeLine ∧ valO l kk = none ∧ K (.nx (e2.set i (some (.odk (l ++ [(kk, .odk [])])))))) : WS C (.setDN i k) e K := by
  obtain ⟨ho, y, e2, h2, l, kk, hl, hk, hz, hn, q⟩ := q
  unfold WS
  simp only [ex, ho, if_true, h2, SOut.of, hl, hk, if_pos (And.intro hz hn)]
  exact q
/-- x[k][j] = v -/
theorem ws_setDD {i j1 j2 : Nat} {a : ME} (q : WE C a e fun x e1 => TD x fun d => ∃ l d1 d2 k1 k2 l2, e1[i]? = some (some (.odk l)) ∧ e1[j1]? = some (some (.s d1)) ∧ e1[j2]? = some (some (.s d2)) ∧ keyD d1 = some k1 ∧ keyD d2 = some k2 ∧ valO l k1 = some (.odk l2) ∧ l2.length < sizeLine ∧
    K (.nx (e1.set i (some (.odk (putO l k1 (.odk (putD l2 k2 (.s d))))))))) : WS C (.setDD i j1 j2 a) e K := by
  obtain ⟨x, e1, h1, l, d1, d2, k1, k2, l2, h2, h3, h4, h5, h6, h7, h8, q⟩ := q
  unfold WS
  simp only [ex, h1, SOut.of, h2, h3, h4, h5, h6, h7, if_pos h8]
  exact q
theorem ws_aug {i : Nat} {a : ME} {x : Int} (h : e[i]? = some (some (.s (.int x)))) (q : WE C a e fun v e1 => TD v fun d => ∃ y, d = .int y ∧ i < e1.length ∧ K (.nx (e1.set i (some (.s (.int (x + y))))))) : WS C (.aug i a) e K := by
  obtain ⟨v, e1, h1, y, hy, hi, q⟩ := q
  unfold WS
  simp only [ex, h, h1, SOut.of, hy, if_pos hi]
  exact q
end
section
variable {Q : OD → Prop}
theorem r2_idxK {l : List (Key × D)} {y d : D} {k : Key} (hk : keyD y = some k) (h : valO l k = some d) (q : Q (.s d)) : R2 .idx (.dk l) y Q := ⟨_, by simp only [p2Sem, idxD, hk, Option.bind_some, h, Option.map_some], q⟩
theorem r2_inK {l : List (Key × D)} {y : D} {k : Key} (hk : keyD y = some k) (q : Q (.s (.bl (valO l k).isSome))) : R2 .inn y (.dk l) Q := ⟨_, by simp only [p2Sem, memD, hk, Option.map_some], q⟩
theorem r2_ninK {l : List (Key × D)} {y : D} {k : Key} (hk : keyD y = some k) (q : Q (.s (.bl (!(valO l k).isSome)))) : R2 .notin y (.dk l) Q := ⟨_, by simp only [p2Sem, memN, memD, hk, Option.map_some], q⟩
theorem r2_idxStr {z : Str} {i : Int} {c : Nat} (hz : z.length ≤ sizeLine) (h : atI z.cps.toList i = some c) (q : Q (.s (.str ⟨#[c]⟩))) : R2 .idx (.str z) (.int i) Q := ⟨_, by simp only [p2Sem, idxD, if_pos hz, h, Option.map_some], q⟩
theorem r2_inStr {z : Str} {c : Nat} (q : Q (.s (.bl (decide (c ∈ z.cps.toList))))) : R2 .inn (.str ⟨#[c]⟩) (.str z) Q := ⟨_, rfl, q⟩
theorem r2_isnt {i j : Bool} (q : Q (.s (.bl (!decide (i = j))))) : R2 .isnt (.bl i) (.bl j) Q := ⟨_, rfl, q⟩
theorem r2_inT {i : Int} {ns : List Int} (q : Q (.s (.bl (decide (i ∈ ns))))) : R2 .inn (.int i) (.tup (ns.map .int)) Q :=
  ⟨_, by simp only [p2Sem, memD, isq, Option.bind_some, inD, flV, flVs_ints, inV_ints, Option.map_some], q⟩
theorem r2_ninT {i : Int} {ns : List Int} (q : Q (.s (.bl (decide (i ∉ ns))))) : R2 .notin (.int i) (.tup (ns.map .int)) Q :=
  ⟨_, by simp only [p2Sem, memN, memD, isq, Option.bind_some, inD, flV, flVs_ints, inV_ints, Option.map_some, decide_not], q⟩
theorem r2_hiT {l : List D} {i : Int} {k : Nat} (h : i = (k : Int)) (q : Q (.s (.tup (l.take k)))) : R2 .sliceHi (.tup l) (.int i) Q := by
  subst h
  exact ⟨_, by simp only [p2Sem, sliceSem, cut_hi], q⟩
theorem r1_tupRng {n : Nat} (h : n ≤ 1000000) (q : Q (.s (.tup (rngD n)))) : R1 .tupRng (.int (n : Int)) Q := by
  refine ⟨_, ?_, q⟩
  simp only [p1Sem]
  rw [if_pos (by omega), Int.toNat_natCast]
  rfl
theorem r2_iss {i j : Bool} (q : Q (.s (.bl (decide (i = j))))) : R2 .iss (.bl i) (.bl j) Q := ⟨_, rfl, q⟩
theorem r1_intS {x : Str} {n : Int} (hl : x.length ≤ 640) (h : PySem.intText? x = some n) (q : Q (.s (.int n))) : R1 .intOf (.str x) Q := ⟨_, by simp only [p1Sem, if_pos hl, h, Option.map_some], q⟩
theorem ddN_nd {ns : List Int} (h : ns.Nodup) : ddN ns = ns.length := by
  unfold ddN
  rw [RZ.firstMet_nodup h ns.length (Nat.le_refl _), List.take_length]
theorem r1_lenSetD {ns : List Int} (hz : ns.length ≤ 4000) (q : Q (.s (.int (ddN ns)))) : R1 .lenSet (.lst (ns.map D.int)) Q := ⟨_, by simp only [p1Sem, asInts_map, if_pos hz], q⟩
theorem r1_lenSet {ns : List Int} (h : ns.Nodup) (hz : ns.length ≤ 4000) (q : Q (.s (.int ns.length))) : R1 .lenSet (.lst (ns.map D.int)) Q := r1_lenSetD hz (by rw [ddN_nd h]; exact q)
theorem r1_listK {l : List (Key × D)} (q : Q (.ol ((l.map fun p => dkey p.1).map .s))) : R1 .listOf (.dk l) Q := by
  refine ⟨_, rfl, ?_⟩
  rw [List.map_map] at q
  exact q
theorem view_tupD (l : List D) : (tupD l).view = .tup l := by
  unfold tupD D.view
  simp only [List.map_map]
  congr 1
  exact List.map_id _
theorem r2_idxxT {l m : List D} {i : Int} (h : atI l i = some (.tup m)) (q : Q (.s (.tup m))) : R2 .idxx (.tup l) (.int i) Q := ⟨_, by simp only [p2Sem, idxD, isq, Option.bind_some, h, Option.map_some, D.view], q⟩
theorem r2_idxxX {l m : List D} {i : Int} (h : atI l i = some (tupD m)) (q : Q (.s (.tup m))) : R2 .idxx (.tup l) (.int i) Q := ⟨_, by simp only [p2Sem, idxD, isq, Option.bind_some, h, Option.map_some, view_tupD], q⟩
theorem r1_tupX {l : List D} (q : Q (.s (tupD l))) : R1 .tupX (.lst l) Q := ⟨_, rfl, q⟩
theorem r1_isNone {d : D} (q : Q (.s (.bl d.isN))) : R1 .isNone d Q := ⟨_, rfl, q⟩
theorem r1_notNone {d : D} (q : Q (.s (.bl !d.isN))) : R1 .notNone d Q := ⟨_, rfl, q⟩
end
end MW
namespace MW
open L2 PyProof.Rows PySem.Spec PySem
/-! ### rules: tuples as keys, functions made -/
theorem keysO_of : ∀ {ds : List D} {ks : List Key}, keysD ds = some ks → keysO (ds.map .s) = some ks
  | [], ks, h => h
  | d :: ds, ks, h => by
    simp only [keysD] at h
    split at h
    · rename_i k r h1 h2
      cases h
      simp only [List.map_cons, keysO, keyO, h1, keysO_of h2]
    · cases h
section
variable {C : CallS} {e : Env} {Q : OD → Env → Prop} {K : SOut → Prop}
theorem w_tupK {l : MAs} (q : WD C l e fun ds e1 => ∃ ks, keysD ds = some ks ∧ ds.length ≤ sizeLine ∧ Q (.s (.kt ks)) e1) : WE C (.tupK l) e Q := by
  obtain ⟨ds, e1, h1, ks, h2, h3, q⟩ := q
  exact ⟨_, e1, by simp only [ev, h1, Out.bind, keysO_of h2, List.length_map, if_pos h3], q⟩
theorem ws_setDT {i : Nat} {k a : ME} (q : WE C a e fun x e1 => TD x fun d => isOdt e1[i]? = true ∧ WE C k e1 fun y e2 => TD y fun dy => ∃ l kk, e2[i]? = some (some (.odt l)) ∧ keyT dy = some kk ∧ l.length < sizeLine ∧ K (.nx (e2.set i (some (.odt (putD l kk (.s d))))))) : WS C (.setDT i k a) e K := by
  obtain ⟨x, e1, h1, h2, y, e2, h3, l, kk, h4, h5, h6, q⟩ := q
  unfold WS
  simp only [ex, h1, SOut.of, h2, if_true, h3, h4, h5, if_pos h6]
  exact q
theorem w_get3T {a k d : ME} (q : WO C a e fun o e1 => ∃ l0, o.res e1 = some (.dt l0) ∧ WE C k e1 fun y e2 => TD y fun dy => ∃ kk, keyT dy = some kk ∧ WE C d e2 fun z e3 => TD z fun dz => ∃ l, o.res e3 = some (.dt l) ∧ Q (.s ((valO l kk).getD dz)) e3) : WE C (.get3 a k d) e Q := by
  obtain ⟨o, e1, h1, l0, h2, y, e2, h3, kk, h4, z, e3, h5, l, h6, q⟩ := q
  exact ⟨_, e3, by simp only [ev, h1, Out.bind, h2, h3, h4, h5, h6], q⟩
/-- a call of the function that was handed in -/
theorem w_callv {i g : Nat} {ws : List D} {l : MAs} (h : e[i]? = some (some (.s (.clo g ws)))) (q : WD C l e fun ds e1 => ∃ r, C g ((ds ++ ws).map .s) = .ok r ∧ Q r e1) : WE C (.callv i l) e Q := by
  obtain ⟨ds, e1, h1, r, h2, q⟩ := q
  rw [List.map_append] at h2
  exact ⟨r, e1, by simp only [ev, h, h1, Out.bind, h2], q⟩
theorem w_callL {f g : Nat} {a : ME} {js : List Nat} {ws : List D} {e1 : Env} (h : capE js e = some (ws, e1)) (q : WE C a e1 fun x e2 => TD x fun d => d.noC = true ∧ D.noCs ws = true ∧ ∃ r, C f [.s d, .s (.clo g ws)] = .ok r ∧ r.noC = true ∧ Q r e2) : WE C (.callL f a g js) e Q := by
  obtain ⟨x, e2, h1, h2, h3, r, h4, h5, q⟩ := q
  have h2 : x.toD.noC = true := h2
  have h4 : C f [.s x.toD, .s (.clo g ws)] = .ok r := h4
  exact ⟨r, e2, by simp only [ev, h, h1, Out.bind, h2, h3, Bool.and_self, if_true, h4, h5], q⟩
theorem ws_retL {f g : Nat} {a : ME} {js : List Nat} (q : WE C (.callL f a g js) e fun x e1 => K (.rt x e1)) : WS C (.retL f a g js) e K := by
  obtain ⟨x, e1, h1, q⟩ := q
  unfold WS
  simp only [ex, h1, SOut.of]
  exact q
theorem ws_defC {j f g : Nat} {a : ME} {js : List Nat} (h : isFree e[j]? = true) (q : WE C (.callL f a g js) e fun x e1 => K (.rt x e1)) : WSs C (.defC j f a g js) e K := by
  obtain ⟨x, e1, h1, q⟩ := q
  unfold WSs
  simp only [exs, h, if_true, h1, SOut.of]
  exact q
/-! a call that is lent its arguments -/
def WB (C : CallS) (l : MAs) (e : Env) (Q : List Opd → Env → Prop) : Prop := ∃ os e', evb C l e = .ok os e' ∧ Q os e'
theorem wb_nil {Q : List Opd → Env → Prop} (q : Q [] e) : WB C .nil e Q := ⟨[], e, rfl, q⟩
theorem wb_cons {m : Bool} {a : ME} {l : MAs} {Q : List Opd → Env → Prop} (q : WO C a e fun o e1 => WB C l e1 fun os e2 => Q (o :: os) e2) : WB C (.cons m a l) e Q := by
  obtain ⟨o, e1, h1, os, e2, h2, q⟩ := q
  exact ⟨_, e2, by simp only [evb, h1, Out.bind, h2], q⟩
theorem w_callB {f : Nat} {l : MAs} (q : WB C l e fun os e1 => ∃ ds, resTs os e1 = some ds ∧ ∃ d, C f (ds.map .s) = .ok (.s d) ∧ scaD d = true ∧ Q (.s d) e1) : WE C (.callB f l) e Q := by
  obtain ⟨os, e1, h1, ds, h2, d, h3, h4, q⟩ := q
  exact ⟨_, e1, by simp only [ev, h1, Out.bind, h2, h3, h4, if_true], q⟩
theorem borOs_s : ∀ ds : List D, borOs (ds.map .s) = true
  | [] => rfl
  | d :: ds => by simp only [List.map_cons, borOs, borO, borOs_s ds, Bool.and_self]
theorem lent_l {i : Nat} {ds : List D} (h : e[i]? = some (some (.ol (ds.map .s)))) : (Opd.at i).resT e = some (.lst ds) := by
  simp only [Opd.resT, h, borO, borOs_s, if_true, OD.toD, toDs_s]
theorem lent_s {i : Nat} {d : D} (h : e[i]? = some (some (.s d))) : (Opd.at i).resT e = some d := by
  simp only [Opd.resT, h, borO, if_true, OD.toD]
theorem resTs_cons {o : Opd} {os : List Opd} {d : D} {ds : List D} (h1 : o.resT e = some d) (h2 : resTs os e = some ds) : resTs (o :: os) e = some (d :: ds) := by
  simp only [resTs, h1, h2]
end
section
variable {Q : OD → Prop}
theorem r2_idxDT {l : List (List Key × D)} {ks : List Key} {d : D} (h : valO l ks = some d) (q : Q (.s d)) : R2 .idx (.dt l) (.kt ks) Q := ⟨_, by simp only [p2Sem, idxD, keyT, Option.bind_some, h, Option.map_some], q⟩
theorem r2_inDT {l : List (List Key × D)} {ks : List Key} (q : Q (.s (.bl (valO l ks).isSome))) : R2 .inn (.kt ks) (.dt l) Q := ⟨_, by simp only [p2Sem, memD, keyT, Option.map_some], q⟩
theorem r2_ninDT {l : List (List Key × D)} {ks : List Key} (q : Q (.s (.bl (!(valO l ks).isSome)))) : R2 .notin (.kt ks) (.dt l) Q := ⟨_, by simp only [p2Sem, memN, memD, keyT, Option.map_some], q⟩
theorem r2_idxKt {ks : List Key} {i : Int} {d : D} (h : atI (ks.map dkey) i = some d) (q : Q (.s d)) : R2 .idx (.kt ks) (.int i) Q := ⟨_, by simp only [p2Sem, idxD, isq, Option.bind_some, h, Option.map_some], q⟩
end
/-! what is put, what is found -/
theorem valO_put {κ β : Type} [DecidableEq κ] {l : List (κ × β)} {k k' : κ} {v : β} : valO (putD l k v) k' = if k' = k then some v else valO l k' := by
  unfold putD
  split
  · rename_i h
    have gen : ∀ l : List (κ × β), valO (l.map fun p => if p.1 = k then (p.1, v) else p) k' = if k' = k then (if (l.any fun p => decide (p.1 = k)) = true then some v else none) else valO l k' := by
      intro l
      induction l with
      | nil => simp [valO]
      | cons p l ih =>
        unfold valO at ih ⊢
        rw [List.map_cons, List.find?_cons, List.find?_cons, List.any_cons]
        by_cases h1 : p.1 = k
        · rw [if_pos h1]
          by_cases h2 : k' = k
          · simp [h1, h2]
          · have : ¬ p.1 = k' := fun z => h2 (z.symm.trans h1)
            simp only [this, decide_false]
            rw [ih]
            simp [h2]
        · rw [if_neg h1]
          by_cases h3 : p.1 = k'
          · have h2 : ¬ k' = k := fun z => h1 (h3.trans z)
            simp [h3, h2]
          · simp only [h3, decide_false, h1, Bool.false_or]
            exact ih
    rw [gen l]
    simp [h]
  · rename_i h
    have hn : ∀ p ∈ l, ¬ p.1 = k := fun p hp z => h (List.any_eq_true.mpr ⟨p, hp, decide_eq_true z⟩)
    unfold valO
    rw [List.find?_append]
    by_cases h2 : k' = k
    · subst h2
      have : (l.find? fun p => decide (p.1 = k')) = none := List.find?_eq_none.mpr fun p hp => by simpa using hn p hp
      simp [this]
    · rw [if_neg h2]
      cases hf : l.find? fun p => decide (p.1 = k') with
      | some x => simp
      | none =>
        have : ¬ k = k' := fun z => h2 z.symm
        simp [this]
theorem put_len {κ β : Type} [DecidableEq κ] {l : List (κ × β)} {k : κ} {v : β} : (putD l k v).length ≤ l.length + 1 := by
  unfold putD
  split
  · simp
  · simp
theorem noCs_ints : ∀ l : List Int, D.noCs (l.map D.int) = true
  | [] => by simp [D.noCs]
  | i :: l => by simp [D.noCs, D.noC, noCs_ints l]
/-! a dict of shared things -/
def liftT (l : List (List Key × D)) : List (List Key × OD) := l.map fun p => (p.1, .s p.2)
theorem liftT_put (l : List (List Key × D)) (k : List Key) (v : D) : putD (liftT l) k (.s v) = liftT (putD l k v) := by
  unfold putD liftT
  rw [List.any_map]
  split
  · rename_i h
    rw [if_pos (by simpa using h), List.map_map, List.map_map]
    refine List.map_congr_left fun p _ => ?_
    dsimp only [Function.comp_apply]
    split <;> rfl
  · rename_i h
    rw [if_neg (by simpa using h), List.map_append]
    rfl
theorem liftT_toDt : ∀ l : List (List Key × D), OD.toDt (liftT l) = l
  | [] => rfl
  | (k, d) :: l => by simp only [liftT, List.map_cons, OD.toDt, OD.toD]; rw [show List.map (fun p : List Key × D => (p.1, OD.s p.2)) l = liftT l from rfl, liftT_toDt l]
theorem allST_lift : ∀ l : List (List Key × D), allST (liftT l) = some l
  | [] => rfl
  | (k, d) :: l => by
    have ih := allST_lift l
    unfold liftT at ih ⊢
    simp only [List.map_cons, allST, ih, Option.map_some]
theorem flat_odt (l : List (List Key × D)) : (OD.odt (liftT l)).flatD = some (.dt l) := by simp only [OD.flatD, allST_lift, Option.map_some]
end MW
namespace MW
open L2 PyProof.Rows PySem.Spec PySem
theorem r2_idxxV {Q : OD → Prop} {l m : List D} {i : Int} {P : D} (h : atI l i = some P) (hv : P.view = .tup m) (q : Q (.s (.tup m))) : R2 .idxx (.tup l) (.int i) Q := ⟨_, by simp only [p2Sem, idxD, isq, Option.bind_some, h, Option.map_some, hv], q⟩
theorem view_tup (l : List D) : (D.tup l).view = .tup l := rfl
end MW
namespace MW46
open L2 PyProof.Rows PySem.Spec PySem MW
local macro_rules | `(tactic| walk_at "mw") => `(tactic| with_reducible first
  | refine ws_cons ?_ | refine tk_nx ?_ | refine tk_rt ?_ | refine tk_bk ?_ | refine tk_ct ?_ | refine tn_nx ?_ | refine tn_ct ?_ | refine tn_bk ?_ | refine tn_rt ?_ | refine rk_rt ?_ | refine rk_nx ?_ | refine jn_nx ?_ | refine jn_rt ?_ | refine jn_bk ?_ | refine jn_ct ?_ | refine ws_asg ?_ | refine ws_ret ?_ | refine ws_retN ?_ | refine ws_nil ?_ | refine ws_exp ?_ | refine ws_brk ?_ | refine ws_cnt ?_ | refine ws_pas ?_
  | refine w_p2 ?_ | refine w_p1 ?_ | refine w_int ?_ | refine w_str ?_ | refine w_bl ?_ | refine w_non ?_ | refine w_chain ?_ | refine w_mth ?_ | refine w_ife ?_ | refine w_slc ?_ | refine w_glb ?_
  | refine w_tup ?_ | refine w_tupK ?_ | refine ws_retL ?_ | refine w_lst ?_ | refine wd_cons ?_ | refine wd_nil ?_ | refine w_and ?_ | refine w_or ?_ | refine w_not ?_
  | refine t_true ?_ | refine t_false ?_ | refine t_ntrue ?_ | refine t_nfalse ?_ | refine b_true ?_ | refine b_false ?_ | refine b_ntrue ?_ | refine b_nfalse ?_
  | refine td_s ?_ | refine td_l ?_ | refine r_vv ?_ | refine r_v ?_ | refine t_dec (fun h => ?_) (fun h => ?_) | refine b_dec (fun h => ?_) (fun h => ?_) | refine b_some ?_
  | refine r2_add ?_ | refine r2_sub ?_ | refine r2_lt ?_ | refine r2_le ?_ | refine r2_gt ?_ | refine r2_ge ?_ | refine r2_eqI ?_ | refine r2_neI ?_ | refine r2_eqS ?_ | refine r2_neS ?_ | refine r2_max ?_ | refine r2_min ?_
  | refine r1_lenL ?_ | refine r1_lenS ?_ | refine r1_lenT ?_ | refine r1_neg ?_ | refine r1_tupT ?_ | refine r1_tupI ?_ | refine r1_strS ?_ | refine r1_tupOfL ?_ | refine r1_intB ?_ | refine pj_str ?_
  | refine r2_mod (by omega) ?_ | refine r2_mul (by omega) ?_ | refine r2_fdiv (by omega) ?_)
local macro_rules | `(tactic| walk_at "mv") => `(tactic| first
  | ((with_reducible refine' wo_bv ?hh ?_); (case hh => exact rfl))
  | ((with_reducible refine' wo_e ?hh ?_); (case hh => exact rfl))
  | ((with_reducible refine' w_var ?hh ?_); (case hh => exact rfl))
  | ((with_reducible refine' w_varL ?hh ?_); (case hh => exact rfl))
  | ((with_reducible refine' w_callS ?hh ?_); (case hh => exact rfl))
  | ((with_reducible refine' w_callv ?hh ?_); (case hh => exact rfl))
  | ((with_reducible refine' w_mov ?hh ?_); (case hh => exact rfl))
  | ((with_reducible refine' r_at ?hh ?hf ?_); (case hh => exact rfl); (case hf => exact flat_ol _))
  | ((with_reducible refine' r_av ?hh ?hf ?_); (case hh => exact rfl); (case hf => exact flat_ol _))
  | ((with_reducible refine' r_va ?hh ?hf ?_); (case hh => exact rfl); (case hf => exact flat_ol _))
  | ((with_reducible refine' r_aa ?hh ?hf ?h2 ?hg ?_); (case hh => exact rfl); (case hf => exact flat_ol _); (case h2 => exact rfl); (case hg => exact flat_ol _))
  | ((with_reducible refine' r_at ?hh ?hf ?_); (case hh => exact rfl); (case hf => exact flat_s _))
  | ((with_reducible refine' r_av ?hh ?hf ?_); (case hh => exact rfl); (case hf => exact flat_s _))
  | ((with_reducible refine' r_va ?hh ?hf ?_); (case hh => exact rfl); (case hf => exact flat_s _))
  | ((with_reducible refine' r_at ?hh ?hf ?_); (case hh => exact rfl); (case hf => exact flat_odt _))
  | ((with_reducible refine' r_av ?hh ?hf ?_); (case hh => exact rfl); (case hf => exact flat_odt _))
  | ((with_reducible refine' r_va ?hh ?hf ?_); (case hh => exact rfl); (case hf => exact flat_odt _))
  | ((with_reducible refine' r2_idxT ?hh ?_); (case hh => exact rfl))
  | ((with_reducible refine' r2_idxxT ?hh ?_); (case hh => exact rfl))
  | ((with_reducible refine' r2_idxxX ?hh ?_); (case hh => exact rfl))
  | ((with_reducible refine' r2_idxxV ?hh ?hv ?_); (case hh => exact rfl); (case hv => assumption))
  | ((with_reducible refine' r2_idxKt ?hh ?_); (case hh => exact rfl))
  | ((with_reducible refine' r2_idxL ?hh ?_); (case hh => exact rfl)))
local macro_rules | `(tactic| walk_at "ms") => `(tactic| first
  | ((with_reducible refine' al_set ?hh ?_); (case hh => exact rfl); (simp only [List.set_cons_zero, List.set_cons_succ]))
  | ((with_reducible refine' al_len ?hh ?_); (case hh => exact rfl)))
local macro_rules | `(tactic| walk_at "app") => `(tactic| first | ((with_reducible refine' ws_app ?hh ?_); (case hh => exact rfl)) | ((with_reducible refine' ws_ext ?hh ?_); (case hh => exact rfl)))
local macro_rules | `(tactic| walk_at "mi") => `(tactic| with_reducible refine ws_if ?_)
local macro_rules | `(tactic| walk_at "gs") => `(tactic| repeat (first | walk_at "mw" | walk_at "mv" | walk_at "ms" | walk_at "app"))
local macro_rules | `(tactic| walk_at "go") => `(tactic| repeat (first | walk_at "mw" | walk_at "mi" | walk_at "mv" | walk_at "ms" | walk_at "app"))
local macro_rules | `(tactic| walk_at "st") => `(tactic| simp only [List.set_cons_zero, List.set_cons_succ])
/-- place_at -/
def F16 : Fn := ⟨2, 4, (.cons (.for_ [2, 3] false (.enum (.var 0)) (.cons (.ifs (.p2 .eq (.var 3) (.var 1)) (.cons (.ret (.mov 2)) .nil) .nil) .nil)) (.cons (.rai 2) .nil))⟩
/-- ends_of -/
def F17 : Fn := ⟨3, 5, (.cons (.asg 3 (.call 16 (.cons false (.var 0) (.cons false (.var 1) .nil)))) (.cons (.asg 4 (.call 16 (.cons false (.var 0) (.cons false (.var 2) .nil)))) (.cons (.ifs (.p2 .eq (.var 3) (.var 4)) (.cons (.rai 3) .nil) .nil) (.cons (.ret (.tupK (.cons false (.p2 .max2 (.var 3) (.var 4)) (.cons false (.p2 .min2 (.var 3) (.var 4)) .nil)))) .nil))))⟩
/-- net_by -/
def F18 : Fn := ⟨2, 6, (.cons (.asg 2 (.lst .nil)) (.cons (.for_ [3, 4] false (.enum (.var 0)) (.cons (.app false 2 (.p1 .tupOf (.comp false [5] [5] true (.seq (.p2 .sliceHi (.var 0) (.var 3))) .none (.callv 1 (.cons false (.var 4) (.cons false (.var 5) .nil)))))) .nil)) (.cons (.ret (.tup (.cons false (.p1 .tupOf (.var 0)) (.cons false (.p1 .tupOf (.bv 2)) .nil)))) .nil)))⟩
/-- _law_cell -/
def F20 : Fn := ⟨2, 2, (.cons (.ifs (.p2 .lt (.var 1) (.p1 .len (.var 0))) (.cons (.ret (.p2 .idx (.var 0) (.var 1))) .nil) .nil) (.cons (.ret (.cint 0)) .nil))⟩
/-- _law_like -/
def F21 : Fn := ⟨2, 3, (.cons (.ifs (.p1 .isNone (.var 1)) (.cons (.ret (.p1 .isNone (.var 0))) .nil) .nil) (.cons (.ifs (.p1 .isBool (.var 1)) (.cons (.ret (.and2 (.p1 .isBool (.var 0)) (.p2 .eq (.var 0) (.var 1)))) .nil) .nil) (.cons (.ifs (.p1 .isInt (.var 1)) (.cons (.ret (.and2 (.p1 .isInt (.var 0)) (.and2 (.not1 (.p1 .isBool (.var 0))) (.p2 .eq (.var 0) (.var 1))))) .nil) .nil) (.cons (.ifs (.p1 .isStr (.var 1)) (.cons (.ret (.and2 (.p1 .isStr (.var 0)) (.p2 .eq (.var 0) (.var 1)))) .nil) .nil) (.cons (.ifs (.and2 (.p1 .isList (.var 1)) (.not1 (.p1 .isList (.var 0)))) (.cons (.ret (.cbl false)) .nil) .nil) (.cons (.ifs (.and2 (.p1 .isTup (.var 1)) (.not1 (.p1 .isTup (.var 0)))) (.cons (.ret (.cbl false)) .nil) .nil) (.cons (.ifs (.p2 .ne (.p1 .len (.var 0)) (.p1 .len (.var 1))) (.cons (.ret (.cbl false)) .nil) .nil) (.cons (.for_ [2] true (.rng1 (.p1 .len (.var 1))) (.cons (.ifs (.not1 (.call 21 (.cons false (.p2 .idxx (.var 0) (.var 2)) (.cons false (.p2 .idxx (.var 1) (.var 2)) .nil)))) (.cons (.ret (.cbl false)) .nil) .nil) .nil)) (.cons (.ret (.cbl true)) .nil)))))))))⟩
/-- _law_many -/
def F22 : Fn := ⟨1, 1, (.cons (.ifs (.p2 .eq (.p2 .mod (.p2 .fdiv (.var 0) (.cint 9)) (.cint 8)) (.cint 1)) (.cons (.ret (.p2 .add (.cint 1) (.p2 .mod (.p2 .fdiv (.var 0) (.cint 72)) (.cint 24)))) .nil) .nil) (.cons (.ret (.p2 .add (.cint 1) (.p2 .mod (.var 0) (.cint 9)))) .nil))⟩
/-- _law_mix -/
def F23 : Fn := ⟨3, 4, (.cons (.asg 3 (.p2 .max2 (.cint 1) (.p2 .sub (.p1 .len (.var 0)) (.var 1)))) (.cons (.ret (.p2 .mod (.p2 .add (.p2 .add (.p2 .mul (.call 20 (.cons false (.var 0) (.cons false (.p2 .add (.var 1) (.p2 .mod (.var 2) (.var 3))) .nil))) (.cint 48271)) (.p2 .mul (.var 2) (.cint 16807))) (.cint 11)) (.cint 2147483647))) .nil))⟩
/-- _law_places -/
def F31 : Fn := ⟨3, 8, (.cons (.asg 3 (.call 20 (.cons false (.var 0) (.cons false (.var 1) .nil)))) (.cons (.asg 4 (.call 20 (.cons false (.var 0) (.cons false (.p2 .add (.var 1) (.cint 1)) .nil)))) (.cons (.asg 5 (.p2 .mod (.p2 .fdiv (.var 3) (.cint 2)) (.cint 4))) (.cons (.ifs (.p2 .eq (.p2 .mod (.var 3) (.cint 2)) (.cint 1)) (.cons (.asg 5 (.p2 .mod (.p2 .fdiv (.var 3) (.cint 2)) (.p2 .pow (.cint 10) (.cint 30)))) .nil) .nil) (.cons (.asg 6 (.lst .nil)) (.cons (.for_ [7] true (.rng1 (.var 2)) (.cons (.app false 6 (.var 5)) (.cons (.asg 5 (.p2 .add (.p2 .add (.var 5) (.cint 1)) (.p2 .mod (.p2 .fdiv (.var 4) (.p2 .add (.var 7) (.cint 1))) (.p2 .idx (.lst (.cons false (.cint 1) (.cons false (.cint 3) (.cons false (.p2 .pow (.cint 10) (.cint 29)) .nil)))) (.p2 .mod (.var 4) (.cint 3)))))) .nil))) (.cons (.ret (.mov 6)) .nil)))))))⟩
/-- set_of -/
def F37 : Fn := ⟨2, 3, (.cons (.for_ [2] true (.seq (.var 1)) (.cons (.ifs (.p2 .notin (.var 2) (.var 0)) (.cons (.rai 2) .nil) .nil) .nil)) (.cons (.ifs (.p2 .eq (.p1 .len (.var 1)) (.cint 0)) (.cons (.rai 7) .nil) .nil) (.cons (.ret (.comp false [2] [2] true (.seq (.p1 .sorted (.var 0))) (.some (.p2 .inn (.var 2) (.var 1))) (.var 2))) .nil)))⟩
/-- colour -/
def F38 : Fn := ⟨3, 4, (.cons (.asg 3 (.call 17 (.cons false (.p2 .idxx (.var 0) (.cint 0)) (.cons false (.var 1) (.cons false (.var 2) .nil))))) (.cons (.ret (.p2 .idx (.p2 .idx (.p2 .idx (.var 0) (.cint 1)) (.p2 .idx (.var 3) (.cint 0))) (.p2 .idx (.var 3) (.cint 1)))) .nil))⟩
/-- part_of -/
def F42 : Fn := ⟨2, 3, (.cons (.retL 18 (.call 37 (.cons false (.p2 .idxx (.var 0) (.cint 0)) (.cons false (.var 1) .nil))) 404 [0]) .nil)⟩
/-- _law_shade -/
def F43 : Fn := ⟨4, 10, (.cons (.asg 4 (.call 20 (.cons false (.var 0) (.cons false (.p2 .add (.var 1) (.cint 2)) .nil)))) (.cons (.asg 5 (.p2 .add (.cint 1) (.p2 .mod (.p2 .fdiv (.var 4) (.cint 4)) (.cint 4)))) (.cons (.asg 6 (.p2 .mod (.p2 .fdiv (.call 23 (.cons false (.var 0) (.cons false (.p2 .add (.var 1) (.cint 4)) (.cons false (.p2 .add (.cint 300) (.var 2)) .nil)))) (.cint 3)) (.var 5))) (.cons (.asg 7 (.p2 .mod (.p2 .fdiv (.call 23 (.cons false (.var 0) (.cons false (.p2 .add (.var 1) (.cint 4)) (.cons false (.p2 .add (.cint 300) (.var 3)) .nil)))) (.cint 3)) (.var 5))) (.cons (.asg 8 (.p2 .fdiv (.call 23 (.cons false (.var 0) (.cons false (.p2 .add (.var 1) (.cint 4)) (.cons false (.p2 .add (.p2 .fdiv (.p2 .mul (.var 2) (.p2 .sub (.var 2) (.cint 1))) (.cint 2)) (.var 3)) .nil)))) (.cint 5))) (.cons (.ifs (.and2 (.p2 .lt (.p2 .mod (.var 4) (.cint 4)) (.cint 2)) (.p2 .ne (.var 6) (.var 7))) (.cons (.asg 8 (.p2 .fdiv (.call 23 (.cons false (.var 0) (.cons false (.p2 .add (.var 1) (.cint 4)) (.cons false (.p2 .add (.p2 .add (.cint 400) (.p2 .mul (.cint 4) (.p2 .max2 (.var 6) (.var 7)))) (.p2 .min2 (.var 6) (.var 7))) .nil)))) (.cint 5))) .nil) .nil) (.cons (.ifs (.and2 (.p2 .eq (.p2 .mod (.var 4) (.cint 4)) (.cint 1)) (.p2 .eq (.p2 .add (.p2 .fdiv (.p2 .mul (.var 2) (.p2 .sub (.var 2) (.cint 1))) (.cint 2)) (.var 3)) (.p2 .mod (.p2 .fdiv (.var 4) (.cint 32)) (.cint 36)))) (.cons (.asg 8 (.p2 .add (.var 8) (.cint 1))) .nil) .nil) (.cons (.ifs (.and2 (.p2 .eq (.p2 .mod (.var 4) (.cint 4)) (.cint 2)) (.p2 .eq (.p2 .mod (.p2 .fdiv (.var 4) (.cint 4)) (.cint 2)) (.cint 1))) (.cons (.ret (.p2 .mod (.var 8) (.p2 .pow (.cint 10) (.cint 8)))) .nil) .nil) (.cons (.asg 9 (.lst (.cons false (.cint 0) (.cons false (.p2 .add (.cint 1) (.p2 .mod (.call 20 (.cons false (.var 0) (.cons false (.p2 .add (.var 1) (.cint 3)) .nil))) (.p2 .pow (.cint 10) (.cint 30)))) (.cons false (.p2 .mod (.p2 .fdiv (.call 20 (.cons false (.var 0) (.cons false (.p2 .add (.var 1) (.cint 3)) .nil))) (.cint 9)) (.cint 5)) .nil))))) (.cons (.ret (.p2 .idx (.var 9) (.p2 .mod (.var 8) (.p2 .add (.cint 2) (.p2 .mod (.p2 .fdiv (.var 4) (.cint 16)) (.cint 2)))))) .nil))))))))))⟩
/-- _law_net -/
def F44 : Fn := ⟨3, 6, (.cons (.asg 3 (.comp false [4] [4] true (.rng1 (.var 2)) .none (.p1 .tupOf (.comp false [5] [5] true (.rng1 (.var 4)) .none (.call 43 (.cons false (.var 0) (.cons false (.var 1) (.cons false (.var 4) (.cons false (.var 5) .nil))))))))) (.cons (.ret (.tup (.cons false (.p1 .tupX (.call 31 (.cons false (.var 0) (.cons false (.var 1) (.cons false (.var 2) .nil))))) (.cons false (.p1 .tupOf (.var 3)) .nil)))) .nil))⟩
/-- _law_dict -/
def F46 : Fn := ⟨1, 5, (.cons (.asg 1 (.dnew true)) (.cons (.for_ [2, 3] false (.enum (.p2 .idxx (.var 0) (.cint 0))) (.cons (.for_ [4] true (.rng1 (.var 2)) (.cons (.setDT 1 (.tupK (.cons false (.var 3) (.cons false (.p2 .idx (.p2 .idxx (.var 0) (.cint 0)) (.var 4)) .nil))) (.p2 .idx (.p2 .idx (.p2 .idx (.var 0) (.cint 1)) (.var 2)) (.var 4))) (.cons (.setDT 1 (.tupK (.cons false (.p2 .idx (.p2 .idxx (.var 0) (.cint 0)) (.var 4)) (.cons false (.var 3) .nil))) (.p2 .idx (.p2 .idx (.p2 .idx (.var 0) (.cint 1)) (.var 2)) (.var 4))) .nil))) .nil)) (.cons (.ret (.mov 1)) .nil)))⟩
/-- shades_by -/
def F57 : Fn := ⟨1, 6, (.cons (.asg 1 (.dnew false)) (.cons (.for_ [2, 3] false (.enum (.p2 .idxx (.var 0) (.cint 0))) (.cons (.setDN 1 (.var 3)) (.cons (.for_ [4, 5] false (.zip (.p2 .sliceHi (.p2 .idxx (.var 0) (.cint 0)) (.var 2)) (.p2 .idx (.p2 .idx (.var 0) (.cint 1)) (.var 2))) (.cons (.setDD 1 3 4 (.var 5)) (.cons (.setDD 1 4 3 (.var 5)) .nil))) .nil))) (.cons (.ret (.mov 1)) .nil)))⟩
/-- told_apart -/
def F58 : Fn := ⟨2, 3, (.cons (.for_ [2] true (.seq (.p2 .sliceLo (.var 1) (.cint 1))) (.cons (.ifs (.p2 .ne (.p2 .idx (.var 0) (.var 2)) (.p2 .idx (.var 0) (.p2 .idx (.var 1) (.cint 0)))) (.cons (.ret (.mov 2)) .nil) .nil) .nil)) (.cons (.ret .cnon) .nil))⟩
/-- teller_by -/
def F59 : Fn := ⟨2, 4, (.cons (.for_ [2] true (.keys (.var 0)) (.cons (.ifs (.p2 .notin (.var 2) (.var 1)) (.cons (.asg 3 (.call 58 (.cons false (.p2 .idx (.var 0) (.var 2)) (.cons false (.var 1) .nil)))) (.cons (.ifs (.p1 .notNone (.var 3)) (.cons (.ret (.tup (.cons false (.var 2) (.cons false (.p2 .idx (.var 1) (.cint 0)) (.cons false (.var 3) .nil))))) .nil) .nil) .nil)) .nil) .nil)) (.cons (.ret .cnon) .nil))⟩
/-- pulled_by -/
def F60 : Fn := ⟨2, 9, (.cons (.asg 2 (.p2 .idx (.var 1) (.cint 0))) (.cons (.asg 3 (.p1 .listOf (.var 1))) (.cons (.asg 4 (.comp false [8] [8] true (.keys (.var 0)) (.some (.p2 .notin (.var 8) (.var 1))) (.var 8))) (.cons (.asg 5 (.lst .nil)) (.cons (.asg 6 (.cint 1)) (.cons (.whl 1000 (.p2 .lt (.var 6) (.p1 .len (.bv 3))) (.cons (.asg 7 (.lst .nil)) (.cons (.for_ [8] true (.seq (.var 4)) (.cons (.ifs (.p2 .ne (.p2 .idx (.p2 .idx (.var 0) (.var 8)) (.var 2)) (.p2 .idx (.p2 .idx (.var 0) (.var 8)) (.p2 .idx (.bv 3) (.var 6)))) (.cons (.app false 5 (.tup (.cons false (.var 8) (.cons false (.var 2) (.cons false (.p2 .idx (.bv 3) (.var 6)) .nil))))) (.cons (.app false 3 (.var 8)) .nil)) (.cons (.app false 7 (.var 8)) .nil)) .nil)) (.cons (.asg 4 (.var 7)) (.cons (.asg 6 (.p2 .add (.var 6) (.cint 1))) .nil))))) (.cons (.ret (.tup (.cons false (.p1 .sorted (.bv 3)) (.cons false (.var 5) .nil)))) .nil)))))))⟩
/-- split -/
def F61 : Fn := ⟨2, 5, (.cons (.asg 2 (.dnew false)) (.cons (.for_ [3] true (.seq (.var 1)) (.cons (.setD 2 (.p2 .idx (.var 0) (.var 3)) (.p2 .add (.get3 (.bv 2) (.p2 .idx (.var 0) (.var 3)) (.lst .nil)) (.lst (.cons false (.var 3) .nil)))) .nil)) (.cons (.ret (.comp false [4] [4] true (.vals (.var 2)) .none (.var 4))) .nil)))⟩
/-- parts_by -/
def F62 : Fn := ⟨2, 6, (.cons (.asg 2 (.lst (.cons false (.var 1) .nil))) (.cons (.asg 3 (.lst .nil)) (.cons (.whl 1000 (.p2 .gt (.p1 .len (.bv 2)) (.cint 0)) (.cons (.asg 4 (.pop 2)) (.cons (.asg 5 (.call 59 (.cons false (.var 0) (.cons false (.var 4) .nil)))) (.cons (.ifs (.p1 .isNone (.var 5)) (.cons (.app false 3 (.var 4)) .nil) (.cons (.ext 2 (.call 61 (.cons false (.p2 .idx (.var 0) (.p2 .idx (.var 5) (.cint 0))) (.cons false (.var 4) .nil)))) .nil)) .nil)))) (.cons (.ret (.p1 .sorted (.bv 3))) .nil))))⟩
/-- teller -/
def F63 : Fn := ⟨2, 2, (.cons (.ret (.call 59 (.cons false (.call 57 (.cons false (.var 0) .nil)) (.cons false (.call 37 (.cons false (.p2 .idxx (.var 0) (.cint 0)) (.cons false (.var 1) .nil))) .nil)))) .nil)⟩
/-- is_group -/
def F64 : Fn := ⟨2, 2, (.cons (.ret (.p1 .isNone (.call 63 (.cons false (.var 0) (.cons false (.var 1) .nil))))) .nil)⟩
/-- pulled -/
def F65 : Fn := ⟨2, 2, (.cons (.ret (.call 60 (.cons false (.call 57 (.cons false (.var 0) .nil)) (.cons false (.call 37 (.cons false (.p2 .idxx (.var 0) (.cint 0)) (.cons false (.var 1) .nil))) .nil)))) .nil)⟩
/-- greatest_within -/
def F66 : Fn := ⟨2, 2, (.cons (.ret (.call 62 (.cons false (.call 57 (.cons false (.var 0) .nil)) (.cons false (.call 37 (.cons false (.p2 .idxx (.var 0) (.cint 0)) (.cons false (.var 1) .nil))) .nil)))) .nil)⟩
/-- _law_shown -/
def F67 : Fn := ⟨3, 3, (.cons (.ret (.p2 .idx (.p2 .idx (.p2 .idx (.var 0) (.cint 1)) (.p2 .max2 (.var 1) (.var 2))) (.p2 .min2 (.var 1) (.var 2)))) .nil)⟩
/-- _law_teller -/
def F68 : Fn := ⟨2, 4, (.cons (.for_ [2] true (.rng1 (.p1 .len (.p2 .idxx (.var 0) (.cint 0)))) (.cons (.ifs (.p2 .notin (.var 2) (.var 1)) (.cons (.for_ [3] true (.seq (.p2 .sliceLo (.var 1) (.cint 1))) (.cons (.ifs (.p2 .ne (.call 67 (.cons false (.var 0) (.cons false (.var 2) (.cons false (.var 3) .nil)))) (.call 67 (.cons false (.var 0) (.cons false (.var 2) (.cons false (.p2 .idx (.var 1) (.cint 0)) .nil))))) (.cons (.ret (.tup (.cons false (.var 2) (.cons false (.p2 .idx (.var 1) (.cint 0)) (.cons false (.var 3) .nil))))) .nil) .nil) .nil)) .nil) .nil) .nil)) (.cons (.ret .cnon) .nil))⟩
/-- _law_closed -/
def F69 : Fn := ⟨2, 3, (.cons (.asg 2 (.call 68 (.cons false (.var 0) (.cons false (.var 1) .nil)))) (.cons (.whl 1000 (.p1 .notNone (.var 2)) (.cons (.asg 1 (.p1 .sorted (.p2 .add (.var 1) (.lst (.cons false (.p2 .idx (.var 2) (.cint 0)) .nil))))) (.cons (.asg 2 (.call 68 (.cons false (.var 0) (.cons false (.var 1) .nil)))) .nil))) (.cons (.ret (.mov 1)) .nil)))⟩
/-- _law_inside -/
def F70 : Fn := ⟨2, 7, (.cons (.asg 2 (.p1 .len (.p2 .idxx (.var 0) (.cint 0)))) (.cons (.asg 3 (.p2 .mod (.var 1) (.cint 5))) (.cons (.asg 4 (.p2 .fdiv (.var 1) (.cint 5))) (.cons (.ifs (.p2 .eq (.var 3) (.cint 0)) (.cons (.ret (.lst (.cons false (.p2 .mod (.var 4) (.var 2)) .nil))) .nil) .nil) (.cons (.ifs (.p2 .eq (.var 3) (.cint 1)) (.cons (.ret (.comp false [6] [6] true (.rng1 (.var 2)) (.some (.or2 (.p2 .eq (.p2 .mod (.p2 .shr (.var 4) (.p2 .mod (.var 6) (.cint 20))) (.cint 2)) (.cint 1)) (.p2 .eq (.var 6) (.p2 .mod (.var 4) (.var 2))))) (.var 6))) .nil) .nil) (.cons (.ifs (.p2 .eq (.var 3) (.cint 2)) (.cons (.ret (.comp false [6] [6] true (.rng1 (.var 2)) (.some (.or2 (.p2 .ne (.var 6) (.p2 .mod (.var 4) (.var 2))) (.p2 .eq (.var 2) (.cint 1)))) (.var 6))) .nil) .nil) (.cons (.asg 5 (.p1 .sorted (.lst (.cons false (.p2 .mod (.var 4) (.var 2)) (.cons false (.p2 .mod (.p2 .fdiv (.var 4) (.cint 31)) (.var 2)) .nil))))) (.cons (.ifs (.or2 (.p2 .eq (.var 3) (.cint 3)) (.p2 .eq (.p2 .idx (.var 5) (.cint 0)) (.p2 .idx (.var 5) (.cint 1)))) (.cons (.ret (.p2 .add (.p2 .sliceHi (.var 5) (.cint 1)) (.comp false [6] [6] true (.seq (.p2 .sliceLo (.var 5) (.cint 1))) (.some (.p2 .ne (.var 6) (.p2 .idx (.var 5) (.cint 0)))) (.var 6)))) .nil) .nil) (.cons (.ret (.call 69 (.cons false (.var 0) (.cons false (.var 5) .nil)))) .nil)))))))))⟩
/-- _law_handed -/
def F71 : Fn := ⟨3, 5, (.cons (.asg 3 (.comp false [4] [4] true (.seq (.var 1)) .none (.p2 .idx (.p2 .idxx (.var 0) (.cint 0)) (.var 4)))) (.cons (.ifs (.p2 .eq (.p2 .mod (.var 2) (.cint 3)) (.cint 1)) (.cons (.asg 3 (.p2 .add (.bv 3) (.p2 .sliceHi (.bv 3) (.p2 .add (.cint 1) (.p2 .mod (.p2 .fdiv (.var 2) (.cint 3)) (.cint 3)))))) .nil) .nil) (.cons (.ifs (.p2 .eq (.p2 .mod (.p2 .fdiv (.var 2) (.cint 9)) (.cint 2)) (.cint 1)) (.cons (.rev 3) .nil) .nil) (.cons (.ret (.mov 3)) .nil))))⟩
/-- _law_asked -/
def F72 : Fn := ⟨2, 4, (.cons (.tryR (.cons (.asg 3 (.call 63 (.cons false (.var 0) (.cons false (.var 1) .nil)))) .nil) 2 [2, 7] (.retW 32 [("NoNet", "NoNet"), ("NoPlace", "NoPlace"), ("SamePlace", "SamePlace"), ("Twice", "Twice"), ("Taken", "Taken"), ("NoColours", "NoColours"), ("NoSet", "NoSet"), ("NoParting", "NoParting"), ("NoGroup", "NoGroup")])) (.cons (.ret (.mov 3)) .nil))⟩
/-- _law_truth -/
def F73 : Fn := ⟨2, 4, (.cons (.tryR (.cons (.asg 3 (.call 64 (.cons false (.var 0) (.cons false (.var 1) .nil)))) .nil) 2 [2, 7] (.retW 32 [("NoNet", "NoNet"), ("NoPlace", "NoPlace"), ("SamePlace", "SamePlace"), ("Twice", "Twice"), ("Taken", "Taken"), ("NoColours", "NoColours"), ("NoSet", "NoSet"), ("NoParting", "NoParting"), ("NoGroup", "NoGroup")])) (.cons (.ret (.mov 3)) .nil))⟩
/-- _law_least -/
def F74 : Fn := ⟨2, 3, (.cons (.tryR (.cons (.exp (.call 65 (.cons false (.var 0) (.cons false (.var 1) .nil)))) .nil) 2 [2, 7] (.retW 32 [("NoNet", "NoNet"), ("NoPlace", "NoPlace"), ("SamePlace", "SamePlace"), ("Twice", "Twice"), ("Taken", "Taken"), ("NoColours", "NoColours"), ("NoSet", "NoSet"), ("NoParting", "NoParting"), ("NoGroup", "NoGroup")])) (.cons (.ret (.cstr "good")) .nil))⟩
/-- _law_parts -/
def F75 : Fn := ⟨2, 3, (.cons (.tryR (.cons (.exp (.call 66 (.cons false (.var 0) (.cons false (.var 1) .nil)))) .nil) 2 [2, 7] (.retW 32 [("NoNet", "NoNet"), ("NoPlace", "NoPlace"), ("SamePlace", "SamePlace"), ("Twice", "Twice"), ("Taken", "Taken"), ("NoColours", "NoColours"), ("NoSet", "NoSet"), ("NoParting", "NoParting"), ("NoGroup", "NoGroup")])) (.cons (.ret (.cstr "good")) .nil))⟩
/-- _law_spoilt -/
def F76 : Fn := ⟨3, 4, (.cons (.ifs (.p2 .eq (.p2 .mod (.var 2) (.cint 9)) (.cint 7)) (.cons (.ret (.lst .nil)) .nil) .nil) (.cons (.ifs (.p2 .eq (.p2 .mod (.var 2) (.cint 9)) (.cint 8)) (.cons (.asg 3 (.p2 .mod (.p2 .fdiv (.var 2) (.cint 9)) (.p2 .add (.p1 .len (.var 1)) (.cint 1)))) (.cons (.ret (.p2 .add (.p2 .add (.p2 .sliceHi (.var 1) (.var 3)) (.lst (.cons false (.p2 .add (.p2 .add (.p2 .idx (.p2 .idxx (.var 0) (.cint 0)) (.p1 .neg (.cint 1))) (.cint 1)) (.p2 .mod (.p2 .fdiv (.var 2) (.cint 9)) (.cint 4))) .nil))) (.p2 .sliceLo (.var 1) (.var 3)))) .nil)) .nil) (.cons (.ret (.mov 1)) .nil)))⟩
/-- law -/
def F77 : Fn := ⟨1, 12, (.cons (.asg 1 (.call 44 (.cons false (.var 0) (.cons false (.cint 1) (.cons false (.call 22 (.cons false (.call 20 (.cons false (.var 0) (.cons false (.cint 0) .nil))) .nil)) .nil))))) (.cons (.for_ [2, 3] false (.enum (.p2 .add (.lst (.cons false (.cint 4) (.cons false (.cint 24) .nil))) (.slc (.var 0) (.cint 2) (.cint 12)))) (.cons (.asg 4 (.p2 .mod (.p2 .add (.p2 .mul (.var 3) (.cint 48271)) (.p2 .mul (.var 2) (.cint 16807))) (.cint 2147483647))) (.cons (.asg 5 (.call 70 (.cons false (.var 1) (.cons false (.var 4) .nil)))) (.cons (.asg 6 (.call 76 (.cons false (.var 1) (.cons false (.call 71 (.cons false (.var 1) (.cons false (.var 5) (.cons false (.p2 .fdiv (.var 4) (.cint 7)) .nil)))) (.cons false (.p2 .fdiv (.var 4) (.cint 11)) .nil))))) (.cons (.asg 7 (.call 68 (.cons false (.var 1) (.cons false (.var 5) .nil)))) (.cons (.asg 8 .cnon) (.cons (.ifs (.p1 .notNone (.var 7)) (.cons (.asg 8 (.tup (.cons false (.p2 .idx (.p2 .idxx (.var 1) (.cint 0)) (.p2 .idx (.var 7) (.cint 0))) (.cons false (.p2 .idx (.p2 .idxx (.var 1) (.cint 0)) (.p2 .idx (.var 7) (.cint 1))) (.cons false (.p2 .idx (.p2 .idxx (.var 1) (.cint 0)) (.p2 .idx (.var 7) (.cint 2))) .nil))))) .nil) .nil) (.cons (.asg 9 (.p1 .isNone (.var 7))) (.cons (.ifs (.p2 .gt (.p2 .mod (.p2 .fdiv (.var 4) (.cint 11)) (.cint 9)) (.cint 6)) (.cons (.asg 8 (.p2 .idx (.lst (.cons false (.cstr "NoSet") (.cons false (.cstr "NoPlace") .nil))) (.p2 .sub (.p2 .mod (.p2 .fdiv (.var 4) (.cint 11)) (.cint 9)) (.cint 7)))) (.cons (.asg 9 (.var 8)) .nil)) .nil) (.cons (.asg 10 (.p1 .listOf (.var 6))) (.cons (.ifs (.or2 (.not1 (.call 21 (.cons false (.call 72 (.cons false (.var 1) (.cons false (.var 10) .nil))) (.cons false (.var 8) .nil)))) (.not1 (.call 21 (.cons false (.call 73 (.cons false (.var 1) (.cons false (.var 10) .nil))) (.cons false (.var 9) .nil))))) (.cons (.ret (.cbl false)) .nil) .nil) (.cons (.asg 11 (.cstr "good")) (.cons (.ifs (.p1 .isStr (.var 9)) (.cons (.asg 11 (.var 9)) .nil) .nil) (.cons (.ifs (.or2 (.p2 .ne (.call 74 (.cons false (.var 1) (.cons false (.var 10) .nil))) (.var 11)) (.p2 .ne (.call 75 (.cons false (.var 1) (.cons false (.var 10) .nil))) (.var 11))) (.cons (.ret (.cbl false)) .nil) .nil) (.cons (.ifs (.p2 .ne (.var 10) (.var 6)) (.cons (.ret (.cbl false)) .nil) .nil) .nil))))))))))))))) (.cons (.ret (.cbl true)) .nil)))⟩
/-- is_parting -/
def F97 : Fn := ⟨2, 4, (.cons (.asg 2 (.lst .nil)) (.cons (.for_ [3] true (.seq (.var 1)) (.cons (.ifs (.p2 .eq (.p1 .len (.var 3)) (.cint 0)) (.cons (.ret (.cbl false)) .nil) .nil) (.cons (.asg 2 (.p2 .add (.var 2) (.p1 .listOf (.var 3)))) .nil))) (.cons (.ret (.p2 .eq (.p1 .sorted (.var 2)) (.p1 .sorted (.var 0)))) .nil)))⟩
/-- quotient -/
def F98 : Fn := ⟨2, 4, (.cons (.ifs (.not1 (.call 97 (.cons false (.p2 .idxx (.var 0) (.cint 0)) (.cons false (.var 1) .nil)))) (.cons (.rai 8) .nil) .nil) (.cons (.for_ [2] true (.seq (.var 1)) (.cons (.ifs (.not1 (.call 64 (.cons false (.var 0) (.cons false (.var 2) .nil)))) (.cons (.rai 9) .nil) .nil) .nil)) (.cons (.retL 18 (.p1 .sorted (.comp false [2] [2] true (.seq (.var 1)) .none (.p1 .minL (.var 2)))) 405 [0]) .nil)))⟩
/-- filled -/
def F106 : Fn := ⟨3, 7, (.cons (.exp (.call 16 (.cons false (.p2 .idxx (.var 0) (.cint 0)) (.cons false (.var 1) .nil)))) (.cons (.asg 4 (.comp false [5] [5] true (.seq (.p2 .idxx (.var 0) (.cint 0))) (.some (.p2 .ne (.var 5) (.var 1))) (.var 5))) (.cons (.for_ [5] true (.seq (.p2 .idxx (.var 2) (.cint 0))) (.cons (.ifs (.p2 .inn (.var 5) (.bv 4)) (.cons (.rai 5) .nil) .nil) .nil)) (.cons (.ifs (.p2 .gt (.p2 .add (.p1 .len (.bv 4)) (.p1 .len (.p2 .idxx (.var 2) (.cint 0)))) (.glb "MOST" (.int 24))) (.cons (.rai 1) .nil) .nil) (.defC 3 18 (.p1 .sorted (.p2 .add (.bv 4) (.p1 .listOf (.p2 .idxx (.var 2) (.cint 0))))) 406 [0, 2, 1])))))⟩
/-- _law_two -/
def F107 : Fn := ⟨4, 8, (.cons (.asg 4 (.call 44 (.cons false (.var 0) (.cons false (.cint 1) (.cons false (.var 1) .nil))))) (.cons (.asg 4 (.tup (.cons false (.p1 .tupOf (.comp false [7] [7] true (.seq (.p2 .idxx (.var 4) (.cint 0))) .none (.p2 .mul (.cint 2) (.var 7)))) (.cons false (.p2 .idx (.var 4) (.cint 1)) .nil)))) (.cons (.asg 5 (.call 44 (.cons false (.var 0) (.cons false (.cint 3) (.cons false (.var 2) .nil))))) (.cons (.asg 6 (.comp false [7] [7] true (.seq (.p2 .idxx (.var 5) (.cint 0))) .none (.p2 .add (.p2 .mul (.cint 2) (.var 7)) (.cint 1)))) (.cons (.asg 7 (.p2 .idx (.p2 .idxx (.var 4) (.cint 0)) (.p2 .mod (.var 3) (.var 1)))) (.cons (.ifs (.p2 .eq (.p2 .mod (.p2 .fdiv (.var 3) (.cint 24)) (.cint 3)) (.cint 1)) (.cons (.setI 6 (.p2 .mod (.p2 .fdiv (.var 3) (.cint 72)) (.var 2)) (.var 7)) .nil) .nil) (.cons (.ret (.tup (.cons false (.var 4) (.cons false (.var 7) (.cons false (.tup (.cons false (.p1 .tupOf (.p1 .sorted (.bv 6))) (.cons false (.p2 .idx (.var 5) (.cint 1)) .nil))) .nil))))) .nil)))))))⟩
/-- _law_filled -/
def F108 : Fn := ⟨3, 11, (.cons (.asg 3 (.call 46 (.cons false (.var 0) .nil))) (.cons (.asg 4 (.call 46 (.cons false (.var 2) .nil))) (.cons (.asg 5 (.p1 .sorted (.p2 .add (.comp false [8] [8] true (.seq (.p2 .idxx (.var 0) (.cint 0))) (.some (.p2 .ne (.var 8) (.var 1))) (.var 8)) (.p1 .listOf (.p2 .idxx (.var 2) (.cint 0)))))) (.cons (.asg 6 (.lst .nil)) (.cons (.for_ [7, 8] false (.enum (.var 5)) (.cons (.asg 9 (.lst .nil)) (.cons (.for_ [10] true (.seq (.p2 .sliceHi (.var 5) (.var 7))) (.cons (.ifs (.and2 (.p2 .inn (.var 8) (.p2 .idxx (.var 2) (.cint 0))) (.p2 .inn (.var 10) (.p2 .idxx (.var 2) (.cint 0)))) (.cons (.app false 9 (.p2 .idx (.bv 4) (.tupK (.cons false (.var 8) (.cons false (.var 10) .nil))))) .nil) (.cons (.ifs (.p2 .inn (.var 8) (.p2 .idxx (.var 2) (.cint 0))) (.cons (.app false 9 (.p2 .idx (.bv 3) (.tupK (.cons false (.var 1) (.cons false (.var 10) .nil))))) .nil) (.cons (.ifs (.p2 .inn (.var 10) (.p2 .idxx (.var 2) (.cint 0))) (.cons (.app false 9 (.p2 .idx (.bv 3) (.tupK (.cons false (.var 8) (.cons false (.var 1) .nil))))) .nil) (.cons (.app false 9 (.p2 .idx (.bv 3) (.tupK (.cons false (.var 8) (.cons false (.var 10) .nil))))) .nil)) .nil)) .nil)) .nil)) (.cons (.app false 6 (.p1 .tupOf (.bv 9))) .nil)))) (.cons (.ret (.tup (.cons false (.p1 .tupOf (.var 5)) (.cons false (.p1 .tupOf (.bv 6)) .nil)))) .nil))))))⟩
/-- law -/
def F109 : Fn := ⟨1, 10, (.cons (.asg 1 (.call 22 (.cons false (.call 20 (.cons false (.var 0) (.cons false (.cint 0) .nil))) .nil))) (.cons (.asg 2 (.p2 .add (.cint 1) (.p2 .mod (.call 20 (.cons false (.var 0) (.cons false (.cint 1) .nil))) (.p2 .min2 (.cint 9) (.p2 .sub (.cint 25) (.var 1)))))) (.cons (.ifs (.p2 .eq (.p2 .mod (.p2 .fdiv (.call 20 (.cons false (.var 0) (.cons false (.cint 1) .nil))) (.cint 9)) (.cint 8)) (.cint 1)) (.cons (.asg 2 (.p2 .sub (.cint 25) (.var 1))) .nil) .nil) (.cons (.asgT [6, 7, 8] (.call 107 (.cons false (.var 0) (.cons false (.var 1) (.cons false (.var 2) (.cons false (.call 23 (.cons false (.var 0) (.cons false (.cint 2) (.cons false (.cint 7) .nil)))) .nil)))))) (.cons (.asg 3 (.call 108 (.cons false (.var 6) (.cons false (.var 7) (.cons false (.var 8) .nil))))) (.cons (.for_ [4] true (.rng1 (.cint 2)) (.cons (.ifs (.not1 (.call 21 (.cons false (.call 106 (.cons false (.var 6) (.cons false (.var 7) (.cons false (.var 8) .nil)))) (.cons false (.var 3) .nil)))) (.cons (.ret (.cbl false)) .nil) .nil) .nil)) (.cons (.asg 5 (.tup (.cons false (.p1 .tupOf (.comp false [9] [9] true (.seq (.p2 .idxx (.var 6) (.cint 0))) .none (.p2 .add (.p2 .pow (.cint 10) (.cint 33)) (.var 9)))) (.cons false (.p2 .idx (.var 6) (.cint 1)) .nil)))) (.cons (.ifs (.not1 (.call 21 (.cons false (.call 106 (.cons false (.var 8) (.cons false (.p2 .idx (.p2 .idxx (.var 8) (.cint 0)) (.cint 0)) (.cons false (.var 5) .nil)))) (.cons false (.call 108 (.cons false (.var 8) (.cons false (.p2 .idx (.p2 .idxx (.var 8) (.cint 0)) (.cint 0)) (.cons false (.var 5) .nil)))) .nil)))) (.cons (.ret (.cbl false)) .nil) .nil) (.cons (.ifs (.p2 .inn (.var 7) (.p2 .idxx (.var 8) (.cint 0))) (.cons (.ret (.cbl true)) .nil) .nil) (.cons (.ret (.call 21 (.cons false (.call 106 (.cons false (.var 8) (.cons false (.p2 .idx (.p2 .idxx (.var 8) (.cint 0)) (.p1 .neg (.cint 1))) (.cons false (.var 6) .nil)))) (.cons false (.call 108 (.cons false (.var 8) (.cons false (.p2 .idx (.p2 .idxx (.var 8) (.cint 0)) (.p1 .neg (.cint 1))) (.cons false (.var 6) .nil)))) .nil)))) .nil))))))))))⟩
/-- _law_renamed -/
def F110 : Fn := ⟨3, 10, (.cons (.asg 3 (.call 46 (.cons false (.var 0) .nil))) (.cons (.asg 4 (.p1 .sorted (.p2 .add (.comp false [7] [7] true (.seq (.p2 .idxx (.var 0) (.cint 0))) (.some (.p2 .ne (.var 7) (.var 1))) (.var 7)) (.lst (.cons false (.var 2) .nil))))) (.cons (.asg 5 (.lst .nil)) (.cons (.for_ [6, 7] false (.enum (.var 4)) (.cons (.asg 8 (.lst .nil)) (.cons (.for_ [9] true (.seq (.p2 .sliceHi (.var 4) (.var 6))) (.cons (.ifs (.p2 .eq (.var 7) (.var 2)) (.cons (.app false 8 (.p2 .idx (.bv 3) (.tupK (.cons false (.var 1) (.cons false (.var 9) .nil))))) .nil) (.cons (.ifs (.p2 .eq (.var 9) (.var 2)) (.cons (.app false 8 (.p2 .idx (.bv 3) (.tupK (.cons false (.var 7) (.cons false (.var 1) .nil))))) .nil) (.cons (.app false 8 (.p2 .idx (.bv 3) (.tupK (.cons false (.var 7) (.cons false (.var 9) .nil))))) .nil)) .nil)) .nil)) (.cons (.app false 5 (.p1 .tupOf (.bv 8))) .nil)))) (.cons (.ret (.tup (.cons false (.p1 .tupOf (.var 4)) (.cons false (.p1 .tupOf (.bv 5)) .nil)))) .nil)))))⟩
/-- law -/
def F111 : Fn := ⟨1, 14, (.cons (.asg 1 (.call 22 (.cons false (.call 20 (.cons false (.var 0) (.cons false (.cint 0) .nil))) .nil))) (.cons (.asg 2 (.p2 .add (.cint 1) (.p2 .mod (.call 20 (.cons false (.var 0) (.cons false (.cint 1) .nil))) (.p2 .min2 (.cint 9) (.p2 .sub (.cint 25) (.var 1)))))) (.cons (.ifs (.p2 .eq (.p2 .mod (.p2 .fdiv (.call 20 (.cons false (.var 0) (.cons false (.cint 1) .nil))) (.cint 9)) (.cint 8)) (.cint 1)) (.cons (.asg 2 (.p2 .sub (.cint 25) (.var 1))) .nil) .nil) (.cons (.asgT [5, 6, 7] (.call 107 (.cons false (.var 0) (.cons false (.var 1) (.cons false (.var 2) (.cons false (.call 23 (.cons false (.var 0) (.cons false (.cint 2) (.cons false (.cint 7) .nil)))) .nil)))))) (.cons (.asg 3 (.call 106 (.cons false (.var 5) (.cons false (.var 6) (.cons false (.var 7) .nil))))) (.cons (.ifs (.or2 (.p2 .isnt (.call 64 (.cons false (.var 3) (.cons false (.p1 .listOf (.p2 .idxx (.var 7) (.cint 0))) .nil))) (.cbl true)) (.not1 (.call 21 (.cons false (.call 42 (.cons false (.var 3) (.cons false (.p1 .listOf (.p2 .idxx (.var 7) (.cint 0))) .nil))) (.cons false (.var 7) .nil))))) (.cons (.ret (.cbl false)) .nil) .nil) (.cons (.asg 4 (.p2 .add (.comp false [12] [12] true (.seq (.p2 .idxx (.var 5) (.cint 0))) (.some (.p2 .ne (.var 12) (.var 6))) (.lst (.cons false (.var 12) .nil))) (.lst (.cons false (.p1 .listOf (.p2 .idxx (.var 7) (.cint 0))) .nil)))) (.cons (.ifs (.not1 (.call 21 (.cons false (.call 98 (.cons false (.var 3) (.cons false (.var 4) .nil))) (.cons false (.call 110 (.cons false (.var 5) (.cons false (.var 6) (.cons false (.p2 .idx (.p2 .idxx (.var 7) (.cint 0)) (.cint 0)) .nil)))) .nil)))) (.cons (.ret (.cbl false)) .nil) .nil) (.cons (.for_ [8, 9] false (.enum (.p2 .add (.lst (.cons false (.cint 9) .nil)) (.slc (.var 0) (.cint 2) (.cint 8)))) (.cons (.asg 10 (.p2 .mod (.p2 .add (.p2 .mul (.var 9) (.cint 48271)) (.p2 .mul (.var 8) (.cint 16807))) (.cint 2147483647))) (.cons (.asg 11 (.comp false [13] [13] true (.rng1 (.var 2)) (.some (.or2 (.p2 .eq (.p2 .mod (.p2 .shr (.var 10) (.p2 .mod (.var 13) (.cint 20))) (.cint 2)) (.cint 1)) (.p2 .eq (.var 13) (.p2 .mod (.var 10) (.var 2))))) (.p2 .idx (.p2 .idxx (.var 7) (.cint 0)) (.var 13)))) (.cons (.ifs (.not1 (.call 21 (.cons false (.call 64 (.cons false (.var 3) (.cons false (.var 11) .nil))) (.cons false (.call 64 (.cons false (.var 7) (.cons false (.var 11) .nil))) .nil)))) (.cons (.ret (.cbl false)) .nil) .nil) .nil)))) (.cons (.ret (.cbl true)) .nil))))))))))⟩
/-- part_of.<locals>.<lambda> -/
def F404 : Fn := ⟨3, 3, (.cons (.ret (.call 38 (.cons false (.var 2) (.cons false (.var 0) (.cons false (.var 1) .nil))))) .nil)⟩
/-- quotient.<locals>.<lambda> -/
def F405 : Fn := ⟨3, 3, (.cons (.ret (.call 38 (.cons false (.var 2) (.cons false (.var 0) (.cons false (.var 1) .nil))))) .nil)⟩
/-- filled.<locals>.shade_of -/
def F406 : Fn := ⟨5, 5, (.cons (.ifs (.and2 (.p2 .inn (.var 0) (.p2 .idxx (.var 3) (.cint 0))) (.p2 .inn (.var 1) (.p2 .idxx (.var 3) (.cint 0)))) (.cons (.ret (.call 38 (.cons false (.var 3) (.cons false (.var 0) (.cons false (.var 1) .nil))))) .nil) .nil) (.cons (.ifs (.p2 .inn (.var 0) (.p2 .idxx (.var 3) (.cint 0))) (.cons (.ret (.call 38 (.cons false (.var 2) (.cons false (.var 4) (.cons false (.var 1) .nil))))) .nil) .nil) (.cons (.ifs (.p2 .inn (.var 1) (.p2 .idxx (.var 3) (.cint 0))) (.cons (.ret (.call 38 (.cons false (.var 2) (.cons false (.var 0) (.cons false (.var 4) .nil))))) .nil) .nil) (.cons (.ret (.call 38 (.cons false (.var 2) (.cons false (.var 0) (.cons false (.var 1) .nil))))) .nil))))⟩
def tab : List (Nat × Fn) := [(16, F16), (17, F17), (18, F18), (20, F20), (21, F21), (22, F22), (23, F23), (31, F31), (37, F37), (38, F38), (42, F42), (43, F43), (44, F44), (46, F46), (57, F57), (58, F58), (59, F59), (60, F60), (61, F61), (62, F62), (63, F63), (64, F64), (65, F65), (66, F66), (67, F67), (68, F68), (69, F69), (70, F70), (71, F71), (72, F72), (73, F73), (74, F74), (75, F75), (76, F76), (77, F77), (97, F97), (98, F98), (106, F106), (107, F107), (108, F108), (109, F109), (110, F110), (111, F111), (404, F404), (405, F405), (406, F406)]
def T (f : Nat) : Option Fn := tab.lookup f
/-! ### what the texts about nets lean on (gathered by mkN0.py out of the woods' texts) -/
def rowD (r : List Int) : D := .tup (r.map .int)
theorem le_size {n : Nat} (h : n ≤ 1000000) : n ≤ sizeLine := Nat.le_trans h (by decide)
theorem ret_is {T : Nat → Option Fn} {d f : Nat} {ods : List OD} {x : OD} (h : ∃ r, evF T d f ods = .ok r ∧ r = x) : evF T d f ods = .ok x := by
  obtain ⟨r, h, rfl⟩ := h
  exact h
def cellAt (ns : List Int) (k : Nat) : Int := ns.getD k 0
structure RowsOk (n : Nat) (rows : List (List Int)) : Prop where
  len : rows.length = n
  row : ∀ (k : Nat) (r : List Int), rows[k]? = some r → r.length = k
theorem atI_nat' {α : Type} {l : List α} {j : Nat} {d : α} (h : l[j]? = some d) : atI l (j : Int) = some d := by
  have hj := (List.getElem?_eq_some_iff.mp h).1
  unfold atI ixN
  rw [if_pos (by omega), if_pos (by omega), Option.bind_some]
  exact h
/-- the colour of two positions -/
def col (rows : List (List Int)) (a b : Nat) : Int := (rows.getD (max a b) []).getD (min a b) 0
theorem col_comm (rows : List (List Int)) (a b : Nat) : col rows a b = col rows b a := by
  unfold col
  rw [Nat.max_comm, Nat.min_comm]
theorem maxI_nat (a b : Nat) : maxI a b = ((max a b : Nat) : Int) := by
  unfold maxI
  split <;> omega
theorem minI_nat (a b : Nat) : minI a b = ((min a b : Nat) : Int) := by
  unfold minI
  split <;> omega
theorem col_get {n : Nat} {rows : List (List Int)} (R : RowsOk n rows) {a b : Nat} (ha : a < n) (hb : b < n) (hne : a ≠ b) :
    rows[max a b]? = some (rows.getD (max a b) []) ∧ (rows.getD (max a b) [])[min a b]? = some (col rows a b) := by
  have hi : max a b < rows.length := by rw [R.len]; omega
  have gi := List.getElem?_eq_getElem hi
  have li := R.row _ _ gi
  have e : rows.getD (max a b) [] = rows[max a b] := by rw [List.getD_eq_getElem?_getD, gi]; rfl
  have hj : min a b < (rows.getD (max a b) []).length := by rw [e, li]; omega
  refine ⟨by rw [e]; exact gi, ?_⟩
  unfold col
  generalize rows.getD (max a b) [] = r at hj ⊢
  rw [List.getD_eq_getElem?_getD, List.getElem?_eq_getElem hj]
  rfl
theorem lt_size {n : Nat} (h : n < 1000000) : n < sizeLine := Nat.lt_of_lt_of_le h (by decide)
theorem getD_get {α : Type} {l : List α} {i : Nat} {z : α} (h : i < l.length) : l[i]? = some (l.getD i z) := by
  rw [List.getD_eq_getElem?_getD, List.getElem?_eq_getElem h]
  rfl
theorem getLastD_mem {l : List Int} (h : l ≠ []) : l.getLastD 0 ∈ l := by
  rw [List.getLastD_eq_getLast?, List.getLast?_eq_some_getLast h]
  exact List.getLast_mem h
theorem p30 : (10 : Int) ^ (30 : Int).toNat = 1000000000000000000000000000000 := by decide
theorem atI_last {l : List Int} (h : l ≠ []) : atI (l.map D.int) (-1) = some (.int (l.getLastD 0)) := by
  have hl : 0 < l.length := List.length_pos_iff.mpr h
  unfold atI ixN
  rw [if_neg (by decide), if_pos (by rw [List.length_map]; omega), Option.bind_some]
  have e : ((-1 : Int) + ((l.map D.int).length : Nat)).toNat = l.length - 1 := by rw [List.length_map]; omega
  rw [e, List.getElem?_map, List.getLastD_eq_getLast?, List.getLast?_eq_getElem?, List.getElem?_eq_getElem (by omega)]
  rfl
def colP (pl : List Int) (rows : List (List Int)) (p q : Int) : Int := col rows (pl.idxOf p) (pl.idxOf q)
theorem idx_lt {pl : List Int} {p : Int} (h : p ∈ pl) : pl.idxOf p < pl.length := List.idxOf_lt_length_of_mem h
theorem idx_get {pl : List Int} {p : Int} (h : p ∈ pl) : pl.getD (pl.idxOf p) 0 = p := by
  have hl := idx_lt h
  rw [List.getD_eq_getElem?_getD, List.getElem?_eq_getElem hl]
  exact List.getElem_idxOf hl
theorem ints_at {l : List Int} {j : Nat} (h : j < l.length) : atI (l.map D.int) (j : Int) = some (.int (l.getD j 0)) := by
  refine atI_nat' ?_
  rw [List.getElem?_map, getD_get (z := 0) h]
  rfl
theorem map_get {α : Type} {f : α → D} {l : List α} {j : Nat} {d : D} (h : (l.map f)[j]? = some d) : ∃ x, l[j]? = some x ∧ d = f x := by
  rw [List.getElem?_map] at h
  cases hx : l[j]? with
  | none => rw [hx] at h; cases h
  | some x => rw [hx] at h; cases h; exact ⟨x, rfl, rfl⟩
/-! ### nets as the laws draw them: cells, mixing, places, colours -/
theorem cell20_at (d : Nat) (ns : List Int) (k : Nat) : evF T (d + 1) 20 [.s (.scr (ns.map .int)), .s (.int k)] = .ok (.s (.int (cellAt ns k))) := by
  refine ret_is (call_ok (F := F20) rfl rfl ?_)
  show WSs _ (MSs.cons _ _) [some (.s (.scr (ns.map .int))), some (.s (.int k))] _
  walk_at "go"
  · rename_i h
    have hk : k < ns.length := by simpa using h
    refine r2_idxS (d := .int (cellAt ns k)) ?_ ?_
    · rw [atI_getN (by simpa using hk)]
      simp [cellAt, List.getD_eq_getElem?_getD, hk]
    · walk_at "go"
      rfl
  · rename_i h
    have hk : ¬ k < ns.length := by simpa using h
    walk_at "go"
    simp [cellAt, List.getD_eq_getElem?_getD, List.getElem?_eq_none (Nat.le_of_not_lt hk)]
theorem many22_at (d : Nat) (c : Int) : ∃ m : Nat, m < 24 ∧ evF T (d + 1) 22 [.s (.int c)] = .ok (.s (.int ((m : Int) + 1))) := by
  refine ⟨if c / 9 % 8 = 1 then (c / 72 % 24).toNat else (c % 9).toNat, by split <;> omega, ?_⟩
  refine ret_is (call_ok (F := F22) rfl rfl ?_)
  show WSs _ (MSs.cons _ _) [some (.s (.int c))] _
  walk_at "go"
  · rename_i h
    rw [if_pos h]
    congr 2
    omega
  · rename_i h
    rw [if_neg h]
    congr 2
    omega
theorem mix23_at (d : Nat) (ns : List Int) (a : Nat) (k : Int) : ∃ v : Int, 0 ≤ v ∧ v < 2147483647 ∧ evF T (d + 2) 23 [.s (.scr (ns.map .int)), .s (.int a), .s (.int k)] = .ok (.s (.int v)) := by
  have hm : ∃ m : Int, 0 < m ∧ maxI 1 ((ns.length : Int) - a) = m := ⟨_, by unfold maxI; split <;> omega, rfl⟩
  obtain ⟨m, hm, em⟩ := hm
  obtain ⟨j, hj⟩ : ∃ j : Nat, (a : Int) + k % m = j := ⟨(a + k % m).toNat, by have := Int.emod_nonneg k (Int.ne_of_gt hm); omega⟩
  refine ⟨(cellAt ns j * 48271 + k * 16807 + 11) % 2147483647, Int.emod_nonneg _ (by decide), Int.emod_lt_of_pos _ (by decide), ?_⟩
  refine ret_is (call_ok (F := F23) rfl rfl ?_)
  show WSs _ (MSs.cons _ _) [some (.s (.scr (ns.map .int))), some (.s (.int a)), some (.s (.int k)), none] _
  walk_at "go"
  rw [List.length_map, em]
  walk_at "go"
  rw [hj]
  refine ⟨_, cell20_at d ns j, ?_⟩
  walk_at "go"
  rfl
set_option maxHeartbeats 1000000 in
theorem shade43_at (d : Nat) (ns : List Int) (a k j : Nat) (hk : k < 100) : ∃ v : Int, evF T (d + 3) 43 [.s (.scr (ns.map .int)), .s (.int a), .s (.int k), .s (.int j)] = .ok (.s (.int v)) := by
  have key : ∃ r, evF T (d + 3) 43 [.s (.scr (ns.map .int)), .s (.int a), .s (.int k), .s (.int j)] = .ok r ∧ ∃ v : Int, r = .s (.int v) := by
    refine call_ok (F := F43) rfl rfl ?_
    show WSs _ (MSs.cons _ _) [some (.s (.scr (ns.map .int))), some (.s (.int a)), some (.s (.int k)), some (.s (.int j)), none, none, none, none, none, none] _
    obtain ⟨v1, a1, b1, h1⟩ := mix23_at d ns (a + 4) (300 + (k : Int))
    obtain ⟨v2, a2, b2, h2⟩ := mix23_at d ns (a + 4) (300 + (j : Int))
    obtain ⟨v3, a3, b3, h3⟩ := mix23_at d ns (a + 4) ((k : Int) * ((k : Int) - 1) / 2 + (j : Int))
    walk_at "gs"
    refine ⟨_, cell20_at (d + 1) ns (a + 2), ?_⟩
    generalize cellAt ns (a + 2) = hd
    walk_at "gs"
    refine ⟨_, h1, ?_⟩
    walk_at "gs"
    refine ⟨_, h2, ?_⟩
    walk_at "gs"
    refine ⟨_, h3, ?_⟩
    walk_at "gs"
    with_reducible refine ws_ifJ (fun e => ∃ v8 : Int, e = [some (.s (.scr (ns.map .int))), some (.s (.int a)), some (.s (.int k)), some (.s (.int j)), some (.s (.int hd)), some (.s (.int (1 + hd / 4 % 4))), some (.s (.int (v1 / 3 % (1 + hd / 4 % 4)))), some (.s (.int (v2 / 3 % (1 + hd / 4 % 4)))), some (.s (.int v8)), none]) ?_ ?_
    · walk_at "go"
      all_goals walk_at "go"
      all_goals walk_at "go"
      all_goals first
        | exact ⟨_, rfl⟩
        | (obtain ⟨v4, a4, b4, h4⟩ := mix23_at d ns (a + 4) (400 + 4 * maxI (v1 / 3 % (1 + hd / 4 % 4)) (v2 / 3 % (1 + hd / 4 % 4)) + minI (v1 / 3 % (1 + hd / 4 % 4)) (v2 / 3 % (1 + hd / 4 % 4)))
           refine ⟨_, h4, ?_⟩
           walk_at "go"
           exact ⟨_, rfl⟩)
    · rintro e ⟨v8, rfl⟩
      walk_at "gs"
      with_reducible refine ws_ifJ (fun e => ∃ v8 : Int, e = [some (.s (.scr (ns.map .int))), some (.s (.int a)), some (.s (.int k)), some (.s (.int j)), some (.s (.int hd)), some (.s (.int (1 + hd / 4 % 4))), some (.s (.int (v1 / 3 % (1 + hd / 4 % 4)))), some (.s (.int (v2 / 3 % (1 + hd / 4 % 4)))), some (.s (.int v8)), none]) ?_ ?_
      · walk_at "go"
        all_goals walk_at "go"
        all_goals walk_at "go"
        all_goals exact ⟨_, rfl⟩
      · rintro e ⟨w8, rfl⟩
        have fin : WSs (evF T (d + 2)) (.cons (.asg 9 (.lst (.cons false (.cint 0) (.cons false (.p2 .add (.cint 1) (.p2 .mod (.call 20 (.cons false (.var 0) (.cons false (.p2 .add (.var 1) (.cint 3)) .nil))) (.p2 .pow (.cint 10) (.cint 30)))) (.cons false (.p2 .mod (.p2 .fdiv (.call 20 (.cons false (.var 0) (.cons false (.p2 .add (.var 1) (.cint 3)) .nil))) (.cint 9)) (.cint 5)) .nil))))) (.cons (.ret (.p2 .idx (.var 9) (.p2 .mod (.var 8) (.p2 .add (.cint 2) (.p2 .mod (.p2 .fdiv (.var 4) (.cint 16)) (.cint 2)))))) .nil))
            [some (.s (.scr (ns.map .int))), some (.s (.int a)), some (.s (.int k)), some (.s (.int j)), some (.s (.int hd)), some (.s (.int (1 + hd / 4 % 4))), some (.s (.int (v1 / 3 % (1 + hd / 4 % 4)))), some (.s (.int (v2 / 3 % (1 + hd / 4 % 4)))), some (.s (.int w8)), none] (retK fun r => ∃ v : Int, r = .s (.int v)) := by
          walk_at "gs"
          refine ⟨_, cell20_at (d + 1) ns (a + 3), ?_⟩
          walk_at "gs"
          refine r2_pow (by decide) ?_
          rw [p30]
          walk_at "gs"
          refine ⟨_, cell20_at (d + 1) ns (a + 3), ?_⟩
          walk_at "gs"
          have g0 := Int.emod_nonneg w8 (b := 2 + hd / 16 % 2) (by omega)
          have g1 := Int.emod_lt_of_pos w8 (b := 2 + hd / 16 % 2) (by omega)
          obtain ⟨dd, -, e⟩ := atI_of (l := [D.int 0, D.int (1 + cellAt ns (a + 3) % 1000000000000000000000000000000), D.int (cellAt ns (a + 3) / 9 % 5)]) g0 (by simp; omega)
          have m := atI_mem e
          refine r2_idxL e ?_
          walk_at "gs"
          simp only [List.mem_cons, List.not_mem_nil, or_false] at m
          rcases m with rfl | rfl | rfl <;> exact ⟨_, rfl⟩
        walk_at "gs"
        with_reducible refine ws_ifJ (fun e => e = [some (.s (.scr (ns.map .int))), some (.s (.int a)), some (.s (.int k)), some (.s (.int j)), some (.s (.int hd)), some (.s (.int (1 + hd / 4 % 4))), some (.s (.int (v1 / 3 % (1 + hd / 4 % 4)))), some (.s (.int (v2 / 3 % (1 + hd / 4 % 4)))), some (.s (.int w8)), none]) ?_ ?_
        · walk_at "go"
          all_goals walk_at "go"
          all_goals walk_at "go"
          all_goals first
            | exact rfl
            | (refine r2_pow (i := 10) (j := 8) (by decide) ?_
               rw [show (10 : Int) ^ (8 : Int).toNat = 100000000 by decide]
               walk_at "go"
               exact ⟨_, rfl⟩)
        · rintro e rfl
          exact fin
  obtain ⟨r, h, v, rfl⟩ := key
  exact ⟨v, h⟩
theorem p29 : (10 : Int) ^ (29 : Int).toNat = 100000000000000000000000000000 := by decide
theorem places31B_at (d : Nat) (ns : List Int) (a m : Nat) (hm : m ≤ 24) : ∃ pl : List Int, pl.length = m ∧ pl.Pairwise (· < ·) ∧ (∀ x ∈ pl, 0 ≤ x ∧ x < 10000000000000000000000000000000) ∧ evF T (d + 2) 31 [.s (.scr (ns.map .int)), .s (.int a), .s (.int m)] = .ok (.ol ((pl.map D.int).map .s)) := by
  have key : ∃ r, evF T (d + 2) 31 [.s (.scr (ns.map .int)), .s (.int a), .s (.int m)] = .ok r ∧ ∃ pl : List Int, pl.length = m ∧ pl.Pairwise (· < ·) ∧ (∀ x ∈ pl, 0 ≤ x ∧ x < 10000000000000000000000000000000) ∧ r = .ol ((pl.map D.int).map .s) := by
    refine call_ok (F := F31) rfl rfl ?_
    show WSs _ (MSs.cons _ _) [some (.s (.scr (ns.map .int))), some (.s (.int a)), some (.s (.int m)), none, none, none, none, none] _
    walk_at "gs"
    refine ⟨_, cell20_at d ns a, ?_⟩
    walk_at "gs"
    refine ⟨_, cell20_at d ns (a + 1), ?_⟩
    generalize cellAt ns a = hd
    generalize cellAt ns (a + 1) = sp
    walk_at "gs"
    with_reducible refine ws_ifJ (fun e => ∃ n : Int, (0 ≤ n ∧ n < 1000000000000000000000000000000) ∧ e = [some (.s (.scr (ns.map .int))), some (.s (.int a)), some (.s (.int m)), some (.s (.int hd)), some (.s (.int sp)), some (.s (.int n)), none, none]) ?_ ?_
    · walk_at "go"
      · refine r2_pow (by decide) ?_
        rw [p30]
        walk_at "go"
        exact ⟨_, ⟨Int.emod_nonneg _ (by decide), by omega⟩, rfl⟩
      · exact ⟨_, ⟨Int.emod_nonneg _ (by decide), by omega⟩, rfl⟩
    · rintro e ⟨n, hn, rfl⟩
      walk_at "gs"
      with_reducible refine ws_rng ?_
      walk_at "gs"
      refine ⟨m, rfl, by omega, fun j e => ∃ (pl : List Int) (n : Int) (y : Option OD), pl.length = j ∧ pl.Pairwise (· < ·) ∧ (∀ x ∈ pl, 0 ≤ x ∧ x < n) ∧ (0 ≤ n ∧ n < 1000000000000000000000000000000 + (j : Int) * 100000000000000000000000000000) ∧ e = [some (.s (.scr (ns.map .int))), some (.s (.int a)), some (.s (.int m)), some (.s (.int hd)), some (.s (.int sp)), some (.s (.int n)), some (.ol ((pl.map D.int).map .s)), y], ⟨[], n, none, rfl, List.Pairwise.nil, by simp, ⟨hn.1, by omega⟩, rfl⟩, ?_, ?_⟩
      · rintro j e hj ⟨pl, n, y, hl, pw, hb, hn, rfl⟩
        refine ⟨_, rfl, ?_⟩
        walk_at "st"
        walk_at "gs"
        refine ⟨_, rfl, by rw [List.length_map]; exact lt_size (by omega), ?_⟩
        walk_at "st"
        walk_at "gs"
        refine r2_pow (by decide) ?_
        rw [p29]
        walk_at "gs"
        have g0 := Int.emod_nonneg sp (b := 3) (by omega)
        have g1 := Int.emod_lt_of_pos sp (b := 3) (by omega)
        obtain ⟨dd, -, e⟩ := atI_of (l := [D.int 1, D.int 3, D.int 100000000000000000000000000000]) g0 (by simp; omega)
        have mm := atI_mem e
        have hg : ∃ g : Int, (0 < g ∧ g ≤ 100000000000000000000000000000) ∧ dd = .int g := by
          simp only [List.mem_cons, List.not_mem_nil, or_false] at mm
          rcases mm with rfl | rfl | rfl <;> exact ⟨_, by decide, rfl⟩
        obtain ⟨g, hg, rfl⟩ := hg
        refine r2_idxL e ?_
        walk_at "gs"
        have g2 := Int.emod_nonneg (sp / ((j : Int) + 1)) (Int.ne_of_gt hg.1)
        have g3 := Int.emod_lt_of_pos (sp / ((j : Int) + 1)) hg.1
        refine ⟨pl ++ [n], n + 1 + sp / ((j : Int) + 1) % g, some (.s (.int (j : Int))), by rw [List.length_append, hl]; rfl, ?_, ?_, ⟨by omega, by push_cast; omega⟩, ?_⟩
        · refine List.pairwise_append.mpr ⟨pw, by simp, fun x hx z hz => ?_⟩
          rw [List.mem_singleton] at hz
          have := hb x hx
          omega
        · intro x hx
          rcases List.mem_append.mp hx with hx | hx
          · have := hb x hx; omega
          · rw [List.mem_singleton] at hx; omega
        · simp only [List.map_append, List.map_cons, List.map_nil]
      · rintro e ⟨pl, n, y, hl, pw, hb, hn, rfl⟩
        walk_at "gs"
        exact ⟨pl, hl, pw, fun x hx => ⟨(hb x hx).1, by have := (hb x hx).2; omega⟩, rfl⟩
  obtain ⟨r, h, pl, h1, h2, h3, rfl⟩ := key
  exact ⟨pl, h1, h2, h3, h⟩
theorem places31_at (d : Nat) (ns : List Int) (a m : Nat) (hm : m ≤ 24) : ∃ pl : List Int, pl.length = m ∧ pl.Pairwise (· < ·) ∧ (∀ x ∈ pl, 0 ≤ x) ∧ evF T (d + 2) 31 [.s (.scr (ns.map .int)), .s (.int a), .s (.int m)] = .ok (.ol ((pl.map D.int).map .s)) := by
  obtain ⟨pl, h1, h2, h3, h4⟩ := places31B_at d ns a m hm
  exact ⟨pl, h1, h2, fun x hx => (h3 x hx).1, h4⟩
/-- the laws' own nets -/
def netX (pl : List Int) (rows : List (List Int)) : D := .tup [tupD (pl.map D.int), .tup (rows.map rowD)]
theorem net44B_at (d : Nat) (ns : List Int) (a m : Nat) (hm : m ≤ 24) : ∃ (pl : List Int) (rows : List (List Int)), pl.length = m ∧ pl.Pairwise (· < ·) ∧ (∀ x ∈ pl, 0 ≤ x ∧ x < 10000000000000000000000000000000) ∧ RowsOk m rows ∧ evF T (d + 4) 44 [.s (.scr (ns.map .int)), .s (.int a), .s (.int m)] = .ok (.s (netX pl rows)) := by
  obtain ⟨pl, h1, h2, h3, hp⟩ := places31B_at (d + 1) ns a m hm
  have H : ∀ k j : Nat, ∃ v : Int, k < 100 → evF T (d + 3) 43 [.s (.scr (ns.map .int)), .s (.int a), .s (.int k), .s (.int j)] = .ok (.s (.int v)) := fun k j => by
    by_cases hk : k < 100
    · obtain ⟨v, h⟩ := shade43_at d ns a k j hk
      exact ⟨v, fun _ => h⟩
    · exact ⟨0, fun h => absurd h hk⟩
  refine ⟨pl, (List.range m).map fun k => (List.range k).map fun j => Classical.choose (H k j), h1, h2, h3, ⟨by simp, fun k r hr => ?_⟩, ?_⟩
  · rw [List.getElem?_map] at hr
    by_cases hk : k < m
    · rw [List.getElem?_range hk] at hr
      cases hr
      simp
    · rw [List.getElem?_eq_none (by simpa using hk)] at hr
      cases hr
  · refine ret_is (call_ok (F := F44) rfl rfl ?_)
    show WSs _ (MSs.cons _ _) [some (.s (.scr (ns.map .int))), some (.s (.int a)), some (.s (.int m)), none, none, none] _
    walk_at "gs"
    with_reducible refine w_mapR ?_
    walk_at "gs"
    refine ⟨m, rfl, by omega, rfl, fun k => rowD ((List.range k).map fun j => Classical.choose (H k j)), fun k hk => ⟨_, rfl, ?_⟩, ?_⟩
    · walk_at "st"
      walk_at "gs"
      with_reducible refine w_mapR ?_
      walk_at "gs"
      refine ⟨k, rfl, by omega, rfl, fun j => .int (Classical.choose (H k j)), fun j hj => ⟨_, rfl, ?_⟩, ?_⟩
      · walk_at "gs"
        refine ⟨_, Classical.choose_spec (H k j) (by omega), ?_⟩
        walk_at "gs"
        exact ⟨rfl, rfl, rfl⟩
      · walk_at "gs"
        refine ⟨by unfold rowD; rw [List.map_map]; rfl, rfl, rfl⟩
    · walk_at "gs"
      refine ⟨_, hp, ?_⟩
      walk_at "gs"
      refine r1_tupX ?_
      walk_at "gs"
      unfold netX
      rw [List.map_map]
      rfl
theorem net44_at (d : Nat) (ns : List Int) (a m : Nat) (hm : m ≤ 24) : ∃ (pl : List Int) (rows : List (List Int)), pl.length = m ∧ pl.Pairwise (· < ·) ∧ (∀ x ∈ pl, 0 ≤ x) ∧ RowsOk m rows ∧ evF T (d + 4) 44 [.s (.scr (ns.map .int)), .s (.int a), .s (.int m)] = .ok (.s (netX pl rows)) := by
  obtain ⟨pl, rows, h1, h2, h3, h4⟩ := net44B_at d ns a m hm
  exact ⟨pl, rows, h1, h2, fun x hx => (h3 x hx).1, h4⟩
theorem enumG_get {l : List D} {k : Nat} {x : D} (h : (enumD l)[k]? = some x) : ∃ v, l[k]? = some v ∧ x = .tup [.int (k : Nat), v] := by
  unfold enumD at h
  rw [List.getElem?_map, List.getElem?_zipIdx] at h
  cases e : l[k]? with
  | none => rw [e] at h; cases h
  | some v => rw [e] at h; exact ⟨v, rfl, by simpa using (Option.some.inj h).symm⟩
/-! ### rules -/
section
variable {Q : OD → Prop}
theorem tix_ok {l : List Int} {i : Int} (h : i ∈ l) (q : Q (.s (.int (l.idxOf i : Nat)))) : ∃ od, pmSem .tindex (tupD (l.map D.int)) (.int i) = some od ∧ Q od := by
  refine ⟨_, ?_, q⟩
  unfold pmSem tupD
  dsimp only
  have e : ((l.map D.int).map fun d => (("" : Str), d)).map (fun p => p.2) = l.map D.int := by
    rw [List.map_map]
    exact List.map_id _
  rw [e, asInts_map, Option.bind_some, if_pos h]
end
theorem idx_take {l : List Int} {x : Int} {k : Nat} (h : l[k]? = some x) (hn : x ∉ l.take k) : l.idxOf x = k := by
  obtain ⟨hk, e⟩ := List.getElem?_eq_some_iff.mp h
  have hm : x ∈ l := List.mem_of_getElem? h
  have h1 : l.idxOf x < l.length := List.idxOf_lt_length_iff.mpr hm
  have h2 : l[l.idxOf x] = x := List.getElem_idxOf h1
  rcases Nat.lt_trichotomy (l.idxOf x) k with h3 | h3 | h3
  · exfalso
    apply hn
    rw [List.mem_take_iff_getElem]
    exact ⟨l.idxOf x, by omega, h2⟩
  · exact h3
  · exfalso
    have := List.not_of_lt_findIdx (p := fun a => a == x) (xs := l) (i := k) (by unfold List.idxOf at h3; exact h3)
    simp only [e, beq_self_eq_true] at this
    simp at this
/-! ### what is raised -/
def resG (P : CRes → Prop) : SOut → Prop
  | .nx _ => P (.ok (.s .non))
  | .rt r _ => P (.ok r)
  | .exc c _ => P (.exc c)
  | _ => False
theorem call_xG {T : Nat → Option Fn} {f d : Nat} {F : Fn} {ods : List OD} {P : CRes → Prop} (hT : T f = some F) (hn : ods.length = F.np) (q : WSs (evF T d) F.body (ods.map some ++ List.replicate (F.ns - F.np) none) (resG P)) : P (evF T (d + 1) f ods) := by
  unfold WSs at q
  simp only [evF_succ, hT, callF, if_pos hn]
  revert q
  cases exs (evF T d) F.body (ods.map some ++ List.replicate (F.ns - F.np) none) with
  | nx e => exact fun q => q
  | rt r e => exact fun q => q
  | bk e => exact fun q => q.elim
  | ct e => exact fun q => q.elim
  | exc c e => exact fun q => q
  | bad => exact fun q => q.elim
def WXG (C : CallS) (a : ME) (e : MW.Env) (X : Nat → MW.Env → Prop) : Prop := ∃ k e', ev C a e = .exc k e' ∧ X k e'
section
variable {C : CallS} {e : MW.Env} {K : SOut → Prop}
theorem ws_raiG {k : Nat} (q : K (.exc k e)) : WS C (.rai k) e K := q
theorem ws_asgXG {i : Nat} {a : ME} (q : WXG C a e fun k e1 => K (.exc k e1)) : WS C (.asg i a) e K := by
  obtain ⟨k, e1, h, q⟩ := q
  unfold WS
  simp only [ex, h, SOut.of]
  exact q
theorem wx_callG {f : Nat} {l : MAs} {X : Nat → MW.Env → Prop} (q : WD C l e fun ds e1 => ∃ k, C f (ds.map .s) = .exc k ∧ X k e1) : WXG C (.call f l) e X := by
  obtain ⟨ds, e1, h1, k, h2, q⟩ := q
  exact ⟨k, e1, by simp only [ev, h1, Out.bind, h2], q⟩
def tryG (js : List Nat) (h : HS) (K : SOut → Prop) : SOut → Prop
  | .exc j e => j ∈ js ∧ K (.rt (.s (hsev (relE j) h).d) e)
  | .nx e => K (.nx e)
  | .rt r e => K (.rt r e)
  | .bk e => K (.bk e)
  | .ct e => K (.ct e)
  | .bad => K .bad
theorem ws_tryG {b : MSs} {i : Nat} {js : List Nat} {h : HS} (q : WSs C b e (tryG js h K)) : WS C (.tryR b i js h) e K := by
  unfold WSs at q
  unfold WS
  simp only [ex]
  revert q
  cases exs C b e with
  | exc j e1 => rintro ⟨hj, q⟩; dsimp only; rw [if_pos hj]; exact q
  | nx e1 => exact fun q => q
  | rt r e1 => exact fun q => q
  | bk e1 => exact fun q => q
  | ct e1 => exact fun q => q
  | bad => exact fun q => q
theorem tryG_nx {js : List Nat} {h : HS} (q : K (.nx e)) : tryG js h K (.nx e) := q
end
/-! ### where a place stands -/
theorem place16_ok (d : Nat) (pl : List Int) (x : Int) (hx : x ∈ pl) : evF T (d + 1) 16 [.s (.tup (pl.map D.int)), .s (.int x)] = .ok (.s (.int (pl.idxOf x : Nat))) := by
  refine ret_is (call_ok (F := F16) rfl rfl ?_)
  show WSs _ (MSs.cons _ _) [some (.s (.tup (pl.map D.int))), some (.s (.int x)), none, none] _
  walk_at "gs"
  with_reducible refine ws_for (wi_enumT ?_)
  walk_at "gs"
  refine ⟨_, rfl, fun k e => (∃ y2 y3, e = [some (.s (.tup (pl.map D.int))), some (.s (.int x)), y2, y3]) ∧ x ∉ pl.take k, ⟨⟨none, none, rfl⟩, by simp⟩, ?_, ?_⟩
  · rintro k v e hv ⟨⟨y2, y3, rfl⟩, hk⟩
    obtain ⟨w, hw, rfl⟩ := enumG_get hv
    obtain ⟨p, hp, rfl⟩ := map_get hw
    refine ⟨_, rfl, ?_⟩
    walk_at "st"
    walk_at "go"
    · rename_i h
      subst h
      rw [idx_take hp hk]
    · rename_i h
      refine ⟨⟨_, _, rfl⟩, ?_⟩
      rw [List.take_add_one, hp]
      simp only [Option.toList, List.mem_append, List.mem_singleton, not_or]
      exact ⟨hk, fun z => h z.symm⟩
  · rintro e ⟨_, hk⟩
    exfalso
    rw [show (enumD (pl.map D.int)).length = pl.length by simp [enumD], List.take_length] at hk
    exact hk hx
theorem place16_no (d : Nat) (pl : List Int) (x : Int) (hx : x ∉ pl) : evF T (d + 1) 16 [.s (.tup (pl.map D.int)), .s (.int x)] = .exc 2 := by
  refine call_xG (P := fun r => r = .exc 2) (F := F16) rfl rfl ?_
  show WSs _ (MSs.cons _ _) [some (.s (.tup (pl.map D.int))), some (.s (.int x)), none, none] _
  walk_at "gs"
  with_reducible refine ws_for (wi_enumT ?_)
  walk_at "gs"
  refine ⟨_, rfl, fun k e => (∃ y2 y3, e = [some (.s (.tup (pl.map D.int))), some (.s (.int x)), y2, y3]), ⟨none, none, rfl⟩, ?_, ?_⟩
  · rintro k v e hv ⟨y2, y3, rfl⟩
    obtain ⟨w, hw, rfl⟩ := enumG_get hv
    obtain ⟨p, hp, rfl⟩ := map_get hw
    refine ⟨_, rfl, ?_⟩
    walk_at "st"
    walk_at "go"
    · rename_i h
      subst h
      exact absurd (List.mem_of_getElem? hp) hx
    · exact ⟨_, _, rfl⟩
  · rintro e ⟨y2, y3, rfl⟩
    walk_at "gs"
    refine ws_raiG ?_
    exact (rfl : CRes.exc 2 = .exc 2)
theorem ends17_no1 (d : Nat) (pl : List Int) (x y : Int) (hx : x ∉ pl) : evF T (d + 2) 17 [.s (.tup (pl.map D.int)), .s (.int x), .s (.int y)] = .exc 2 := by
  refine call_xG (P := fun r => r = .exc 2) (F := F17) rfl rfl ?_
  show WSs _ (MSs.cons _ _) [some (.s (.tup (pl.map D.int))), some (.s (.int x)), some (.s (.int y)), none, none] _
  refine ws_cons (ws_asgXG (wx_callG ?_))
  walk_at "gs"
  exact ⟨2, place16_no d pl x hx, rfl⟩
theorem ends17_no2 (d : Nat) (pl : List Int) (x y : Int) (hx : x ∈ pl) (hy : y ∉ pl) : evF T (d + 2) 17 [.s (.tup (pl.map D.int)), .s (.int x), .s (.int y)] = .exc 2 := by
  refine call_xG (P := fun r => r = .exc 2) (F := F17) rfl rfl ?_
  show WSs _ (MSs.cons _ _) [some (.s (.tup (pl.map D.int))), some (.s (.int x)), some (.s (.int y)), none, none] _
  refine ws_cons (ws_asg ?_)
  walk_at "gs"
  refine ⟨_, place16_ok d pl x hx, ?_⟩
  refine ⟨by simp, ?_⟩
  refine tk_nx ?_
  refine ws_cons (ws_asgXG (wx_callG ?_))
  walk_at "st"
  walk_at "gs"
  exact ⟨2, place16_no d pl y hy, rfl⟩
theorem ends17_same (d : Nat) (pl : List Int) (x : Int) (hx : x ∈ pl) : evF T (d + 2) 17 [.s (.tup (pl.map D.int)), .s (.int x), .s (.int x)] = .exc 3 := by
  refine call_xG (P := fun r => r = .exc 3) (F := F17) rfl rfl ?_
  show WSs _ (MSs.cons _ _) [some (.s (.tup (pl.map D.int))), some (.s (.int x)), some (.s (.int x)), none, none] _
  walk_at "gs"
  refine ⟨_, place16_ok d pl x hx, ?_⟩
  walk_at "gs"
  refine ⟨_, place16_ok d pl x hx, ?_⟩
  walk_at "gs"
  refine ws_if ?_
  walk_at "gs"
  · refine ws_raiG ?_
    exact (rfl : CRes.exc 3 = .exc 3)
  · rename_i h; exact absurd rfl h
theorem ends17_ok (d : Nat) (pl : List Int) (x y : Int) (hx : x ∈ pl) (hy : y ∈ pl) (hne : x ≠ y) : evF T (d + 2) 17 [.s (.tup (pl.map D.int)), .s (.int x), .s (.int y)] = .ok (.s (.kt [.inl (maxI (pl.idxOf x : Nat) (pl.idxOf y : Nat)), .inl (minI (pl.idxOf x : Nat) (pl.idxOf y : Nat))])) := by
  have hn : ((pl.idxOf x : Nat) : Int) ≠ ((pl.idxOf y : Nat) : Int) := by
    intro e
    have e : pl.idxOf x = pl.idxOf y := by omega
    have h1 := List.getElem_idxOf (List.idxOf_lt_length_iff.mpr hx)
    have h2 := List.getElem_idxOf (List.idxOf_lt_length_iff.mpr hy)
    apply hne
    rw [← h1, ← h2]
    simp only [e]
  refine ret_is (call_ok (F := F17) rfl rfl ?_)
  show WSs _ (MSs.cons _ _) [some (.s (.tup (pl.map D.int))), some (.s (.int x)), some (.s (.int y)), none, none] _
  walk_at "gs"
  refine ⟨_, place16_ok d pl x hx, ?_⟩
  walk_at "gs"
  refine ⟨_, place16_ok d pl y hy, ?_⟩
  walk_at "go"
  · rename_i h; exact absurd h hn
  · walk_at "go"
    refine ⟨_, rfl, le_size (by simp), ?_⟩
    walk_at "go"
    rfl
/-! ### nets, however they were made -/
theorem colG {n : Nat} {rows : List (List Int)} (R : RowsOk n rows) {a b : Nat} (ha : a < n) (hb : b < n) (hne : a ≠ b) :
    atI (rows.map rowD) (maxI a b) = some (rowD (rows.getD (max a b) [])) ∧ atI ((rows.getD (max a b) []).map D.int) (minI a b) = some (.int (col rows a b)) := by
  have h := col_get R ha hb hne
  rw [maxI_nat, minI_nat]
  exact ⟨atI_nat' (by rw [List.getElem?_map, h.1]; rfl), atI_nat' (by rw [List.getElem?_map, h.2]; rfl)⟩
theorem idx_ne {pl : List Int} {x y : Int} (hx : x ∈ pl) (hy : y ∈ pl) (hne : x ≠ y) : pl.idxOf x ≠ pl.idxOf y := by
  intro e
  have h1 := List.getElem_idxOf (List.idxOf_lt_length_iff.mpr hx)
  have h2 := List.getElem_idxOf (List.idxOf_lt_length_iff.mpr hy)
  apply hne
  rw [← h1, ← h2]
  simp only [e]
theorem idx_up {pl : List Int} (pw : pl.Pairwise (· < ·)) {x y : Int} (hx : x ∈ pl) (hy : y ∈ pl) (h : x < y) : pl.idxOf x < pl.idxOf y := by
  have i1 := List.idxOf_lt_length_iff.mpr hx
  have i2 := List.idxOf_lt_length_iff.mpr hy
  have h1 := List.getElem_idxOf i1
  have h2 := List.getElem_idxOf i2
  rcases Nat.lt_trichotomy (pl.idxOf x) (pl.idxOf y) with h3 | h3 | h3
  · exact h3
  · exact absurd h3 (idx_ne hx hy (by omega))
  · have := List.pairwise_iff_getElem.mp pw _ _ i2 i1 h3
    rw [h1, h2] at this
    omega
/-- a net: its places may stand in a tuple of which more is known -/
def NetD (N : D) (pl : List Int) (rows : List (List Int)) : Prop := ∃ P, N = .tup [P, .tup (rows.map rowD)] ∧ P.view = .tup (pl.map D.int)
def netP (pl : List Int) (rows : List (List Int)) : D := .tup [.tup (pl.map D.int), .tup (rows.map rowD)]
theorem netP_N (pl : List Int) (rows : List (List Int)) : NetD (netP pl rows) pl rows := ⟨_, rfl, rfl⟩
theorem netX_N (pl : List Int) (rows : List (List Int)) : NetD (netX pl rows) pl rows := ⟨_, rfl, view_tupD _⟩
theorem colourN_ok (d : Nat) {N : D} {pl : List Int} {rows : List (List Int)} (hN : NetD N pl rows) (R : RowsOk pl.length rows) {x y : Int} (hx : x ∈ pl) (hy : y ∈ pl) (hne : x ≠ y) : evF T (d + 3) 38 [.s N, .s (.int x), .s (.int y)] = .ok (.s (.int (colP pl rows x y))) := by
  obtain ⟨h1, h2⟩ := colG R (List.idxOf_lt_length_iff.mpr hx) (List.idxOf_lt_length_iff.mpr hy) (idx_ne hx hy hne)
  obtain ⟨P, rfl, hP⟩ := hN
  refine ret_is (call_ok (F := F38) rfl rfl ?_)
  show WSs _ (MSs.cons _ _) [some (.s (.tup [P, .tup (rows.map rowD)])), some (.s (.int x)), some (.s (.int y)), none] _
  walk_at "gs"
  refine ⟨_, ends17_ok d pl x y hx hy hne, ?_⟩
  walk_at "gs"
  refine r2_idxT h1 ?_
  walk_at "gs"
  unfold rowD
  refine r2_idxT h2 ?_
  walk_at "gs"
  rfl
/-- the rows of a net, by a colouring of pairs of places -/
def rowOf (pl : List Int) (S : Int → Int → Int) (k : Nat) : List Int := (List.range k).map fun j => S (pl.getD k 0) (pl.getD j 0)
def rowsOf (pl : List Int) (S : Int → Int → Int) : List (List Int) := (List.range pl.length).map (rowOf pl S)
theorem rowsOf_ok (pl : List Int) (S : Int → Int → Int) : RowsOk pl.length (rowsOf pl S) := by
  refine ⟨by simp [rowsOf], fun k r hr => ?_⟩
  unfold rowsOf at hr
  rw [List.getElem?_map] at hr
  by_cases hk : k < pl.length
  · rw [List.getElem?_range hk] at hr
    cases hr
    simp [rowOf]
  · rw [List.getElem?_eq_none (by simpa using hk)] at hr
    cases hr
theorem getD_ints {pl : List Int} {k : Nat} {p : Int} (h : pl[k]? = some p) : pl.getD k 0 = p := by rw [List.getD_eq_getElem?_getD, h]; rfl
theorem netby_at (d : Nat) (pl : List Int) (hn : pl.length ≤ 1000) (g : Nat) (ws : List D) (S : Int → Int → Int)
    (h : ∀ k j : Nat, k < pl.length → j < k → evF T d g ([.s (.int (pl.getD k 0)), .s (.int (pl.getD j 0))] ++ ws.map .s) = .ok (.s (.int (S (pl.getD k 0) (pl.getD j 0))))) :
    evF T (d + 1) 18 [.s (.lst (pl.map D.int)), .s (.clo g ws)] = .ok (.s (netP pl (rowsOf pl S))) := by
  refine ret_is (call_ok (F := F18) rfl rfl ?_)
  show WSs _ (MSs.cons _ _) [some (.s (.lst (pl.map D.int))), some (.s (.clo g ws)), none, none, none, none] _
  walk_at "gs"
  with_reducible refine ws_for (wi_enum ?_)
  walk_at "gs"
  refine ⟨_, rfl, fun k e => ∃ y3 y4, e = [some (.s (.lst (pl.map D.int))), some (.s (.clo g ws)), some (.ol ((((List.range k).map (rowOf pl S)).map rowD).map .s)), y3, y4, none], ⟨none, none, rfl⟩, ?_, ?_⟩
  · rintro k v e hv ⟨y3, y4, rfl⟩
    obtain ⟨w, hw, rfl⟩ := enumG_get hv
    obtain ⟨p, hp, rfl⟩ := map_get hw
    have hk : k < pl.length := (List.getElem?_eq_some_iff.mp hp).1
    refine ⟨_, rfl, ?_⟩
    walk_at "st"
    walk_at "gs"
    with_reducible refine w_map (α := Int) (wi_seq ?_)
    walk_at "gs"
    refine r2_hiL (k := k) rfl ?_
    walk_at "gs"
    refine ⟨_, rfl, rfl, pl.take k, D.int, fun q => D.int (S p q), by rw [List.map_take], by rw [List.length_take]; exact le_size (by omega), fun j q hq => ⟨_, rfl, ?_⟩, ?_⟩
    · have hj : j < k := by
        have := (List.getElem?_eq_some_iff.mp hq).1
        rw [List.length_take] at this
        omega
      have hq2 : pl[j]? = some q := by rwa [List.getElem?_take_of_lt hj] at hq
      have h2 := h k j hk hj
      rw [getD_ints hp, getD_ints hq2] at h2
      walk_at "gs"
      refine ⟨_, by rw [List.map_append]; exact h2, ?_⟩
      walk_at "gs"
      exact ⟨rfl, rfl, rfl⟩
    · walk_at "gs"
      refine ⟨_, rfl, by rw [List.length_map, List.length_map, List.length_range]; exact lt_size (by omega), ?_⟩
      walk_at "st"
      walk_at "gs"
      have e1 : D.tup ((pl.take k).map fun q => D.int (S p q)) = rowD (rowOf pl S k) := by
        unfold rowD rowOf
        rw [List.map_map]
        congr 1
        refine List.ext_getElem? fun j => ?_
        rw [List.getElem?_map, List.getElem?_map]
        by_cases hj : j < k
        · rw [List.getElem?_take_of_lt hj, List.getElem?_range hj]
          have hj2 : j < pl.length := by omega
          rw [List.getElem?_eq_getElem hj2]
          simp only [Option.map_some, Function.comp_apply]
          rw [getD_ints hp, getD_ints (List.getElem?_eq_getElem hj2)]
        · rw [List.getElem?_eq_none (by rw [List.length_take]; omega), List.getElem?_eq_none (by rw [List.length_range]; omega)]
          rfl
      have e2 : ((List.range k).map (rowOf pl S)).map rowD ++ [rowD (rowOf pl S k)] = ((List.range (k + 1)).map (rowOf pl S)).map rowD := by
        rw [List.range_succ]
        simp only [List.map_append, List.map_cons, List.map_nil]
      rw [e1, e2]
      exact ⟨_, _, rfl⟩
  · rintro e ⟨y3, y4, rfl⟩
    rw [show (enumD (pl.map D.int)).length = pl.length by simp [enumD]]
    walk_at "gs"
    rfl
theorem getD_inj {pl : List Int} (nd : pl.Nodup) {a b : Nat} (ha : a < pl.length) (hb : b < pl.length) (h : pl.getD a 0 = pl.getD b 0) : a = b := by
  rw [List.getD_eq_getElem?_getD, List.getD_eq_getElem?_getD, List.getElem?_eq_getElem ha, List.getElem?_eq_getElem hb] at h
  exact (List.getElem_inj nd).mp h
theorem row_at {n : Nat} {rows : List (List Int)} (R : RowsOk n rows) {k j : Nat} (hk : k < n) (hj : j < k) : atI (rows.map rowD) (k : Int) = some (rowD (rows.getD k [])) ∧ atI ((rows.getD k []).map D.int) (j : Int) = some (.int (col rows k j)) := by
  have hg := col_get R hk (show j < n by omega) (by omega)
  rw [Nat.max_eq_left (by omega), Nat.min_eq_right (by omega)] at hg
  exact ⟨atI_nat' (by rw [List.getElem?_map, hg.1]; rfl), atI_nat' (by rw [List.getElem?_map, hg.2]; rfl)⟩
theorem getD_memI {l : List Int} {j : Nat} (h : j < l.length) : l.getD j 0 ∈ l := by
  rw [List.getD_eq_getElem?_getD, List.getElem?_eq_getElem h]
  exact List.getElem_mem h
theorem getD_inj' {pl : List Int} (nd : pl.Nodup) {a b : Nat} (ha : a < pl.length) (hb : b < pl.length) (h : pl.getD a 0 = pl.getD b 0) : a = b := by
  rw [List.getD_eq_getElem?_getD, List.getD_eq_getElem?_getD, List.getElem?_eq_getElem ha, List.getElem?_eq_getElem hb] at h
  exact (List.getElem_inj nd).mp h
/-! ### the laws' dict of a net -/
/-- what the dict l tells of the net, up to the turn K, J -/
def DictTo (pl : List Int) (rows : List (List Int)) (l : List (List Key × D)) (K J : Nat) : Prop :=
  ∀ a b : Nat, a ≠ b → (a < K ∧ b < K) ∨ (a = K ∧ b < J) ∨ (b = K ∧ a < J) → valO l [.inl (pl.getD a 0), .inl (pl.getD b 0)] = some (.int (col rows a b))
theorem DictTo.put {pl : List Int} {rows : List (List Int)} (nd : pl.Nodup) {l : List (List Key × D)} {K J : Nat} (hK : K < pl.length) (hJ : J < K) (h : DictTo pl rows l K J) :
    DictTo pl rows (putD (putD l [.inl (pl.getD K 0), .inl (pl.getD J 0)] (.int (col rows K J))) [.inl (pl.getD J 0), .inl (pl.getD K 0)] (.int (col rows K J))) K (J + 1) := by
  intro a b hne hab
  have ha : a < pl.length := by omega
  have hb : b < pl.length := by omega
  have key : ∀ c d : Nat, c < pl.length → d < pl.length → (([Sum.inl (pl.getD a 0), Sum.inl (pl.getD b 0)] : List Key) = [Sum.inl (pl.getD c 0), Sum.inl (pl.getD d 0)] ↔ a = c ∧ b = d) := fun c d hc hd => by
    constructor
    · intro e
      simp only [List.cons.injEq, Sum.inl.injEq, and_true] at e
      exact ⟨getD_inj nd ha hc e.1, getD_inj nd hb hd e.2⟩
    · rintro ⟨rfl, rfl⟩; rfl
  rw [valO_put, valO_put]
  by_cases h1 : a = J ∧ b = K
  · rw [if_pos ((key J K (by omega) hK).mpr h1), h1.1, h1.2, col_comm]
  · rw [if_neg fun z => h1 ((key J K (by omega) hK).mp z)]
    by_cases h2 : a = K ∧ b = J
    · rw [if_pos ((key K J hK (by omega)).mpr h2), h2.1, h2.2]
    · rw [if_neg fun z => h2 ((key K J hK (by omega)).mp z)]
      exact h a b hne (by omega)
theorem dict46_at (d : Nat) {N : D} {pl : List Int} {rows : List (List Int)} (hN : NetD N pl rows) (R : RowsOk pl.length rows) (nd : pl.Nodup) (hn : pl.length ≤ 100) :
    ∃ l : List (List Key × D), evF T (d + 1) 46 [.s N] = .ok (.odt (liftT l)) ∧ ∀ x ∈ pl, ∀ y ∈ pl, x ≠ y → valO l [.inl x, .inl y] = some (.int (colP pl rows x y)) := by
  obtain ⟨P, rfl, hP⟩ := hN
  have key : ∃ r, evF T (d + 1) 46 [.s (.tup [P, .tup (rows.map rowD)])] = .ok r ∧ ∃ l : List (List Key × D), r = .odt (liftT l) ∧ DictTo pl rows l pl.length 0 := by
    refine call_ok (F := F46) rfl rfl ?_
    show WSs _ (MSs.cons _ _) [some (.s (.tup [P, .tup (rows.map rowD)])), none, none, none, none] _
    refine ws_cons (ws_asg (w_dnewT ?_))
    walk_at "gs"
    with_reducible refine ws_for (wi_enumT ?_)
    walk_at "gs"
    refine ⟨_, rfl, fun k e => ∃ l y2 y3 y4, e = [some (.s (.tup [P, .tup (rows.map rowD)])), some (.odt (liftT l)), y2, y3, y4] ∧ DictTo pl rows l k 0 ∧ l.length ≤ 200 * k, ⟨[], none, none, none, rfl, fun a b _ h => by omega, by simp⟩, ?_, ?_⟩
    · rintro k v e hv ⟨l, y2, y3, y4, rfl, hd, hl⟩
      obtain ⟨w, hw, rfl⟩ := enumG_get hv
      obtain ⟨p, hp, rfl⟩ := map_get hw
      have hk : k < pl.length := (List.getElem?_eq_some_iff.mp hp).1
      have ep := getD_ints hp
      refine ⟨_, rfl, ?_⟩
      walk_at "st"
      walk_at "gs"
      with_reducible refine ws_rng ?_
      walk_at "gs"
      refine ⟨k, rfl, by omega, fun j e => ∃ l y4, e = [some (.s (.tup [P, .tup (rows.map rowD)])), some (.odt (liftT l)), some (.s (.int (k : Int))), some (.s (.int p)), y4] ∧ DictTo pl rows l k j ∧ l.length ≤ 200 * k + 2 * j, ⟨l, y4, rfl, hd, by omega⟩, ?_, ?_⟩
      · rintro j e hj ⟨l, y4, rfl, hd, hl⟩
        obtain ⟨g1, g2⟩ := row_at R hk hj
        have hj2 : j < pl.length := by omega
        have eq : atI (pl.map D.int) (j : Int) = some (.int (pl.getD j 0)) := ints_at hj2
        refine ⟨_, rfl, ?_⟩
        walk_at "st"
        refine ws_cons (ws_setDT ?_)
        walk_at "gs"
        refine r2_idxT g1 ?_
        walk_at "gs"
        unfold rowD
        refine r2_idxT g2 ?_
        walk_at "gs"
        refine ⟨rfl, ?_⟩
        walk_at "gs"
        refine r2_idxT eq ?_
        walk_at "gs"
        refine ⟨_, rfl, le_size (by simp), ?_⟩
        walk_at "gs"
        refine ⟨_, _, rfl, rfl, lt_size (by unfold liftT; rw [List.length_map]; omega), ?_⟩
        rw [liftT_put]
        walk_at "st"
        refine tk_nx ?_
        refine ws_cons (ws_setDT ?_)
        walk_at "gs"
        refine r2_idxT g1 ?_
        walk_at "gs"
        unfold rowD
        refine r2_idxT g2 ?_
        walk_at "gs"
        refine ⟨rfl, ?_⟩
        walk_at "gs"
        refine r2_idxT eq ?_
        walk_at "gs"
        refine ⟨_, rfl, le_size (by simp), ?_⟩
        walk_at "gs"
        have l1 := put_len (l := l) (k := ([Sum.inl p, Sum.inl (pl.getD j 0)] : List Key)) (v := D.int (col rows k j))
        have l2 := put_len (l := putD l ([Sum.inl p, Sum.inl (pl.getD j 0)] : List Key) (D.int (col rows k j))) (k := ([Sum.inl (pl.getD j 0), Sum.inl p] : List Key)) (v := D.int (col rows k j))
        refine ⟨_, _, rfl, rfl, lt_size (by unfold liftT; rw [List.length_map]; exact Nat.lt_of_le_of_lt l1 (by omega)), ?_⟩
        rw [liftT_put]
        walk_at "st"
        walk_at "gs"
        refine ⟨_, _, rfl, ?_, ?_⟩
        · have := hd.put nd hk hj
          rwa [ep] at this
        · exact Nat.le_trans l2 (by omega)
      · rintro e ⟨l, y4, rfl, hd, hl⟩
        walk_at "gs"
        exact ⟨l, _, _, _, rfl, fun a b hne hab => hd a b hne (by omega), by omega⟩
    · rintro e ⟨l, y2, y3, y4, rfl, hd, hl⟩
      rw [show (enumD (pl.map D.int)).length = pl.length by simp [enumD]] at hd
      walk_at "gs"
      exact ⟨l, rfl, hd⟩
  obtain ⟨r, h, l, rfl, hd⟩ := key
  refine ⟨l, h, fun x hx y hy hne => ?_⟩
  have h1 := hd (pl.idxOf x) (pl.idxOf y) (idx_ne hx hy hne) (.inl ⟨idx_lt hx, idx_lt hy⟩)
  rw [idx_get hx, idx_get hy] at h1
  exact h1
/-! ### alike -/
theorem r2_idxxG {Q : OD → Prop} {l : List D} {i : Int} {d : D} (h : atI l i = some d) (q : Q (.s d.view)) : R2 .idxx (.tup l) (.int i) Q := ⟨_, by simp only [p2Sem, idxD, isq, Option.bind_some, h, Option.map_some], q⟩
theorem r2_idxxGL {Q : OD → Prop} {l : List D} {i : Int} {d : D} (h : atI l i = some d) (q : Q (.s d.view)) : R2 .idxx (.lst l) (.int i) Q := ⟨_, by simp only [p2Sem, idxD, isq, Option.bind_some, h, Option.map_some], q⟩
theorem likeJ_int (d : Nat) (i : Int) : evF T (d + 1) 21 [.s (.int i), .s (.int i)] = .ok (.s (.bl true)) := by
  refine ret_is (call_ok (F := F21) rfl rfl ?_)
  show WSs _ (MSs.cons _ _) [some (.s (.int i)), some (.s (.int i)), none] _
  walk_at "go"
  refine ⟨_, rfl, t_false ?_⟩
  walk_at "go"
  refine ⟨_, rfl, t_false ?_⟩
  walk_at "go"
  refine ⟨_, rfl, t_true ?_⟩
  walk_at "go"
  refine ⟨_, rfl, b_true ?_⟩
  walk_at "go"
  refine ⟨_, rfl, ?_⟩
  walk_at "go"
  all_goals first | rfl | simp
theorem likeJ_tup (d : Nat) (l l' : List D) (hl : l'.length = l.length) (hn : l.length < 1000) (h : ∀ (j : Nat) (x y : D), l[j]? = some x → l'[j]? = some y → evF T (d + 1) 21 [.s x.view, .s y.view] = .ok (.s (.bl true))) :
    evF T (d + 2) 21 [.s (.tup l), .s (.tup l')] = .ok (.s (.bl true)) := by
  refine ret_is (call_ok (F := F21) rfl rfl ?_)
  show WSs _ (MSs.cons _ _) [some (.s (.tup l)), some (.s (.tup l')), none] _
  walk_at "go"
  refine ⟨_, rfl, t_false ?_⟩
  walk_at "go"
  refine ⟨_, rfl, t_false ?_⟩
  walk_at "go"
  refine ⟨_, rfl, t_false ?_⟩
  walk_at "go"
  refine ⟨_, rfl, t_false ?_⟩
  walk_at "go"
  refine ⟨_, rfl, b_false ?_⟩
  walk_at "go"
  · rename_i hx; exact absurd (by rw [hl]) hx
  · walk_at "go"
    with_reducible refine ws_rng ?_
    walk_at "gs"
    refine ⟨l'.length, rfl, by omega, fun _ e => ∃ y, e = [some (.s (.tup l)), some (.s (.tup l')), y], ⟨_, rfl⟩, ?_, ?_⟩
    · rintro j e hj ⟨y, rfl⟩
      have hj1 : l[j]? = some (l[j]'(by omega)) := List.getElem?_eq_getElem _
      have hj2 : l'[j]? = some (l'[j]'hj) := List.getElem?_eq_getElem _
      refine ⟨_, rfl, ?_⟩
      walk_at "st"
      walk_at "go"
      refine r2_idxxG (atI_nat' hj1) ?_
      walk_at "go"
      refine r2_idxxG (atI_nat' hj2) ?_
      walk_at "go"
      refine ⟨_, h j _ _ hj1 hj2, ?_⟩
      walk_at "go"
      exact ⟨_, rfl⟩
    · rintro e ⟨y, rfl⟩
      walk_at "go"
      rfl
theorem likeJ_ints (d : Nat) (l : List Int) (hn : l.length < 1000) : evF T (d + 2) 21 [.s (.tup (l.map D.int)), .s (.tup (l.map D.int))] = .ok (.s (.bl true)) :=
  likeJ_tup d _ _ rfl (by rw [List.length_map]; exact hn) fun j x y h1 h2 => by
    rw [h1] at h2
    cases h2
    obtain ⟨p, hp, rfl⟩ := map_get h1
    exact likeJ_int d p
theorem likeJ_net (d : Nat) {N N' : D} {pl : List Int} {rows : List (List Int)} (h1 : NetD N pl rows) (h2 : NetD N' pl rows) (hn : pl.length < 1000) (R : RowsOk pl.length rows) : evF T (d + 4) 21 [.s N, .s N'] = .ok (.s (.bl true)) := by
  obtain ⟨P, rfl, hP⟩ := h1
  obtain ⟨P', rfl, hP'⟩ := h2
  refine likeJ_tup (d + 2) _ _ rfl (by simp) fun j x y g1 g2 => ?_
  match j, g1, g2 with
  | 0, g1, g2 =>
    simp only [List.getElem?_cons_zero, Option.some.injEq] at g1 g2
    subst g1 g2
    rw [hP, hP']
    exact likeJ_ints (d + 1) pl hn
  | 1, g1, g2 =>
    simp only [List.getElem?_cons_zero, List.getElem?_cons_succ, Option.some.injEq] at g1 g2
    subst g1 g2
    refine likeJ_tup (d + 1) _ _ rfl (by rw [List.length_map, R.len]; exact hn) fun k x y g1 g2 => ?_
    rw [g1] at g2
    cases g2
    obtain ⟨r, hr, rfl⟩ := map_get g1
    have hk : k < pl.length := by
      have := (List.getElem?_eq_some_iff.mp hr).1
      rwa [R.len] at this
    exact likeJ_ints d r (by rw [R.row k r hr]; omega)
  | j + 2, g1, g2 => simp at g1
theorem noCs_rows : ∀ rows : List (List Int), D.noCs (rows.map rowD) = true
  | [] => by simp [D.noCs]
  | r :: rows => by simp [D.noCs, rowD, D.noC, noCs_ints r, noCs_rows rows]
theorem netP_noC (pl : List Int) (rows : List (List Int)) : (netP pl rows).noC = true := by
  simp [netP, D.noC, D.noCs, noCs_ints, noCs_rows]
theorem noCf_ints : ∀ l : List Int, D.noCf ((l.map D.int).map fun d => (("" : Str), d)) = true
  | [] => by simp [D.noCf]
  | i :: l => by
    have := noCf_ints l
    simp only [List.map_cons, D.noCf, D.noC, Bool.true_and]
    exact this
theorem netX_noC (pl : List Int) (rows : List (List Int)) : (netX pl rows).noC = true := by
  simp only [netX, tupD, D.noC, D.noCs, noCs_rows, noCf_ints, Bool.and_self]
/-! ### a net filled into a place -/
def outF (pa : List Int) (p : Int) : List Int := pa.filter fun x => decide (x ≠ p)
def riseF (pa : List Int) (p : Int) (pb : List Int) : List Int := (outF pa p ++ pb).mergeSort (leK id)
def shF (pa : List Int) (ra : List (List Int)) (p : Int) (pb : List Int) (rb : List (List Int)) (x y : Int) : Int :=
  if x ∈ pb then (if y ∈ pb then colP pb rb x y else colP pa ra p y) else if y ∈ pb then colP pa ra x p else colP pa ra x y
theorem outF_mem {pa : List Int} {p x : Int} : x ∈ outF pa p ↔ x ∈ pa ∧ x ≠ p := by
  unfold outF
  rw [List.mem_filter]
  simp
theorem riseF_mem {pa : List Int} {p : Int} {pb : List Int} {x : Int} : x ∈ riseF pa p pb ↔ (x ∈ pa ∧ x ≠ p) ∨ x ∈ pb := by
  unfold riseF
  rw [(List.mergeSort_perm _ _).mem_iff, List.mem_append, outF_mem]
theorem riseF_len (pa : List Int) (p : Int) (pb : List Int) : (riseF pa p pb).length = (outF pa p).length + pb.length := by
  unfold riseF
  rw [(List.mergeSort_perm _ _).length_eq, List.length_append]
theorem riseF_nd {pa : List Int} {p : Int} {pb : List Int} (na : pa.Nodup) (nb : pb.Nodup) (h : ∀ x ∈ pb, x ∈ pa → x = p) : (riseF pa p pb).Nodup := by
  unfold riseF
  rw [(List.mergeSort_perm _ _).nodup_iff, List.nodup_append]
  refine ⟨na.filter _, nb, fun x hx y hy e => ?_⟩
  subst e
  obtain ⟨h1, h2⟩ := outF_mem.mp hx
  exact h2 (h x hy h1)
theorem outF_fm (p : Int) : ∀ pa : List Int, ((pa.map fun x => if x ≠ p then some (D.int x) else none).filterMap id) = (outF pa p).map D.int
  | [] => rfl
  | x :: pa => by
    have ih := outF_fm p pa
    unfold outF at ih ⊢
    rw [List.map_cons, List.filter_cons]
    by_cases h : x ≠ p
    · rw [if_pos h, if_pos (by simpa using h), List.filterMap_cons]
      simp only [id, List.map_cons]
      rw [ih]
    · rw [if_neg h, if_neg (by simpa using h), List.filterMap_cons]
      simp only [id]
      exact ih
section
variable {pa pb : List Int} {ra rb : List (List Int)} {A B : D} {p : Int}
theorem shade406_at (d : Nat) (hA : NetD A pa ra) (hB : NetD B pb rb) (RA : RowsOk pa.length ra) (RB : RowsOk pb.length rb) (hp : p ∈ pa) {x y : Int} (hx : (x ∈ pa ∧ x ≠ p) ∨ x ∈ pb) (hy : (y ∈ pa ∧ y ≠ p) ∨ y ∈ pb) (hne : x ≠ y) :
    evF T (d + 4) 406 [.s (.int x), .s (.int y), .s A, .s B, .s (.int p)] = .ok (.s (.int (shF pa ra p pb rb x y))) := by
  have hA' := hA
  have hB' := hB
  obtain ⟨PA, rfl, vA⟩ := hA
  obtain ⟨PB, rfl, vB⟩ := hB
  refine ret_is (call_ok (F := F406) rfl rfl ?_)
  show WSs _ (MSs.cons _ _) [some (.s (.int x)), some (.s (.int y)), some (.s (.tup [PA, .tup (ra.map rowD)])), some (.s (.tup [PB, .tup (rb.map rowD)])), some (.s (.int p))] _
  unfold shF
  walk_at "go"
  refine r2_inT ?_
  walk_at "go"
  · rename_i h1
    rw [if_pos h1]
    walk_at "go"
    refine r2_inT ?_
    walk_at "go"
    · rename_i h2
      rw [if_pos h2]
      walk_at "go"
      refine ⟨_, colourN_ok d hB' RB h1 h2 hne, ?_⟩
      walk_at "go"
      rfl
    · rename_i h2
      rw [if_neg h2]
      have hy1 := hy.resolve_right h2
      walk_at "go"
      refine r2_inT ?_
      walk_at "go"
      · walk_at "go"
        refine ⟨_, colourN_ok d hA' RA hp hy1.1 (Ne.symm hy1.2), ?_⟩
        walk_at "go"
        rfl
      · rename_i h3; exact absurd h1 h3
  · rename_i h1
    rw [if_neg h1]
    have hx1 := hx.resolve_right h1
    walk_at "go"
    refine r2_inT ?_
    walk_at "go"
    · rename_i h3; exact absurd h3 h1
    · walk_at "go"
      refine r2_inT ?_
      walk_at "go"
      · rename_i h2
        rw [if_pos h2]
        walk_at "go"
        refine ⟨_, colourN_ok d hA' RA hx1.1 hp hx1.2, ?_⟩
        walk_at "go"
        rfl
      · rename_i h2
        rw [if_neg h2]
        have hy1 := hy.resolve_right h2
        walk_at "go"
        refine ⟨_, colourN_ok d hA' RA hx1.1 hy1.1 hne, ?_⟩
        walk_at "go"
        rfl
set_option maxHeartbeats 1000000 in
theorem filled106_at (d : Nat) (hA : NetD A pa ra) (hB : NetD B pb rb) (RA : RowsOk pa.length ra) (RB : RowsOk pb.length rb) (cA : A.noC = true) (cB : B.noC = true) (na : pa.Nodup) (nb : pb.Nodup) (hp : p ∈ pa) (hd : ∀ x ∈ pb, x ∈ pa → x = p) (hn : (outF pa p).length + pb.length ≤ 24) (hn2 : pa.length ≤ 100) :
    evF T (d + 6) 106 [.s A, .s (.int p), .s B] = .ok (.s (netP (riseF pa p pb) (rowsOf (riseF pa p pb) (shF pa ra p pb rb)))) := by
  have hA' := hA
  have hB' := hB
  obtain ⟨PA, rfl, vA⟩ := hA
  obtain ⟨PB, rfl, vB⟩ := hB
  refine ret_is (call_ok (F := F106) rfl rfl ?_)
  show WSs _ (MSs.cons _ _) [some (.s (.tup [PA, .tup (ra.map rowD)])), some (.s (.int p)), some (.s (.tup [PB, .tup (rb.map rowD)])), none, none, none, none] _
  walk_at "gs"
  refine ⟨_, place16_ok _ pa p hp, ?_⟩
  walk_at "gs"
  with_reducible refine w_comp (wi_seq ?_)
  walk_at "gs"
  refine ⟨_, rfl, rfl, by rw [List.length_map]; exact le_size (by omega), pa.map fun x => if x ≠ p then some (D.int x) else none, by rw [List.length_map, List.length_map], ?_, ?_⟩
  · intro j x o hx ho
    obtain ⟨v, hv, rfl⟩ := map_get hx
    rw [List.getElem?_map, hv] at ho
    have eo : (if v ≠ p then some (D.int v) else none) = o := Option.some.inj ho
    refine ⟨_, rfl, wt_some ?_⟩
    walk_at "gs"
    · rename_i hm
      rw [if_pos hm] at eo
      exact ⟨eo.symm, rfl, rfl⟩
    · rename_i hm
      rw [if_neg hm] at eo
      exact ⟨eo.symm, rfl, rfl⟩
  · rw [outF_fm]
    walk_at "gs"
    with_reducible refine ws_for (wi_seq ?_)
    walk_at "gs"
    refine ⟨_, rfl, fun j e => ∃ y5, e = [some (.s (.tup [PA, .tup (ra.map rowD)])), some (.s (.int p)), some (.s (.tup [PB, .tup (rb.map rowD)])), none, some (.ol (((outF pa p).map D.int).map .s)), y5, none], ⟨_, rfl⟩, ?_, ?_⟩
    · rintro j x e hx ⟨y5, rfl⟩
      obtain ⟨v, hv, rfl⟩ := map_get hx
      refine ⟨_, rfl, ?_⟩
      walk_at "st"
      walk_at "go"
      refine r2_inI ?_
      walk_at "go"
      · rename_i h
        obtain ⟨h1, h2⟩ := outF_mem.mp h
        exact absurd (hd v (List.mem_of_getElem? hv) h1) h2
      · exact ⟨_, rfl⟩
    · rintro e ⟨y5, rfl⟩
      walk_at "go"
      · rename_i h
        rw [List.length_map, List.length_map] at h
        omega
      · walk_at "gs"
        refine' ws_defC ?hh ?_
        case hh => exact rfl
        refine w_callL (ws := [.tup [PA, .tup (ra.map rowD)], .tup [PB, .tup (rb.map rowD)], .int p]) (e1 := [some (.s (.tup [PA, .tup (ra.map rowD)])), some (.s (.int p)), some (.s (.tup [PB, .tup (rb.map rowD)])), none, some (.ol (((outF pa p).map D.int).map .s)), y5, none]) rfl ?_
        walk_at "gs"
        refine r1_rfl (p := .listOf) (d := .tup (pb.map D.int)) (od := .ol ((pb.map D.int).map .s)) rfl ?_
        walk_at "gs"
        refine r2_addL (le_size (by rw [List.length_map, List.length_map]; omega)) ?_
        rw [← List.map_append]
        walk_at "gs"
        refine r1_sortedI (le_size (by rw [List.length_append]; omega)) ?_
        rw [show (outF pa p ++ pb).mergeSort (leK id) = riseF pa p pb from rfl]
        walk_at "gs"
        have rl := riseF_len pa p pb
        have rn := riseF_nd na nb hd
        refine ⟨by simp only [D.noC]; exact noCs_ints _, by simp only [D.noCs]; rw [cA, cB]; simp [D.noC], _, netby_at (d + 4) (riseF pa p pb) (by omega) 406 _ (shF pa ra p pb rb) (fun k j hk hj => ?_), by simp only [OD.noC]; exact netP_noC _ _, ?_⟩
        · refine shade406_at d hA' hB' RA RB hp (riseF_mem.mp (getD_memI hk)) (riseF_mem.mp (getD_memI (by omega))) fun e => ?_
          have := getD_inj' rn hk (by omega) e
          omega
        · walk_at "gs"
          rfl
end
section
variable {pa pb : List Int} {ra rb : List (List Int)} {A B : D} {p : Int}
set_option maxHeartbeats 2000000 in
theorem lawfilled108_at (d : Nat) (hA : NetD A pa ra) (hB : NetD B pb rb) (RA : RowsOk pa.length ra) (RB : RowsOk pb.length rb) (na : pa.Nodup) (nb : pb.Nodup) (hp : p ∈ pa) (hd : ∀ x ∈ pb, x ∈ pa → x = p) (hn : (outF pa p).length + pb.length ≤ 24) (hn2 : pa.length ≤ 100) (hn3 : pb.length ≤ 100) :
    evF T (d + 2) 108 [.s A, .s (.int p), .s B] = .ok (.s (netP (riseF pa p pb) (rowsOf (riseF pa p pb) (shF pa ra p pb rb)))) := by
  obtain ⟨la, ha, ga⟩ := dict46_at d hA RA na hn2
  obtain ⟨lb, hb, gb⟩ := dict46_at d hB RB nb hn3
  obtain ⟨PA, rfl, vA⟩ := hA
  obtain ⟨PB, rfl, vB⟩ := hB
  generalize hr : riseF pa p pb = rise
  have rn : rise.Nodup := by rw [← hr]; exact riseF_nd na nb hd
  have rl : rise.length ≤ 24 := by rw [← hr, riseF_len]; exact hn
  have rm : ∀ x ∈ rise, (x ∈ pa ∧ x ≠ p) ∨ x ∈ pb := fun x hx => by rw [← hr] at hx; exact riseF_mem.mp hx
  generalize hS : shF pa ra p pb rb = S
  refine ret_is (call_ok (F := F108) rfl rfl ?_)
  show WSs _ (MSs.cons _ _) [some (.s (.tup [PA, .tup (ra.map rowD)])), some (.s (.int p)), some (.s (.tup [PB, .tup (rb.map rowD)])), none, none, none, none, none, none, none, none] _
  walk_at "gs"
  refine ⟨_, ha, ?_⟩
  walk_at "gs"
  refine ⟨_, hb, ?_⟩
  walk_at "gs"
  with_reducible refine w_comp (wi_seq ?_)
  walk_at "gs"
  refine ⟨_, rfl, rfl, by rw [List.length_map]; exact le_size (by omega), pa.map fun x => if x ≠ p then some (D.int x) else none, by rw [List.length_map, List.length_map], ?_, ?_⟩
  · intro j x o hx ho
    obtain ⟨v, hv, rfl⟩ := map_get hx
    rw [List.getElem?_map, hv] at ho
    have eo : (if v ≠ p then some (D.int v) else none) = o := Option.some.inj ho
    refine ⟨_, rfl, wt_some ?_⟩
    walk_at "gs"
    · rename_i hm
      rw [if_pos hm] at eo
      exact ⟨eo.symm, rfl, rfl⟩
    · rename_i hm
      rw [if_neg hm] at eo
      exact ⟨eo.symm, rfl, rfl⟩
  · rw [outF_fm]
    walk_at "gs"
    refine r1_rfl (p := .listOf) (d := .tup (pb.map D.int)) (od := .ol ((pb.map D.int).map .s)) rfl ?_
    walk_at "gs"
    refine r2_addL (le_size (by rw [List.length_map, List.length_map]; omega)) ?_
    rw [← List.map_append]
    walk_at "gs"
    refine r1_sortedI (le_size (by rw [List.length_append]; omega)) ?_
    rw [show (outF pa p ++ pb).mergeSort (leK id) = rise from hr]
    walk_at "gs"
    with_reducible refine ws_for (wi_enum ?_)
    walk_at "gs"
    refine ⟨_, rfl, fun k e => ∃ y7 y8 y9 y10, e = [some (.s (.tup [PA, .tup (ra.map rowD)])), some (.s (.int p)), some (.s (.tup [PB, .tup (rb.map rowD)])), some (.odt (liftT la)), some (.odt (liftT lb)), some (.s (.lst (rise.map D.int))), some (.ol ((((List.range k).map (rowOf rise S)).map rowD).map .s)), y7, y8, y9, y10], ⟨_, _, _, _, rfl⟩, ?_, ?_⟩
    · rintro k v e hv ⟨y7, y8, y9, y10, rfl⟩
      obtain ⟨w, hw, rfl⟩ := enumG_get hv
      obtain ⟨x, hx, rfl⟩ := map_get hw
      have hk : k < rise.length := (List.getElem?_eq_some_iff.mp hx).1
      have ex := getD_ints hx
      have mx := rm x (List.mem_of_getElem? hx)
      refine ⟨_, rfl, ?_⟩
      walk_at "st"
      walk_at "gs"
      with_reducible refine ws_for (wi_seq ?_)
      walk_at "gs"
      refine r2_hiL (k := k) rfl ?_
      walk_at "gs"
      refine ⟨_, rfl, fun j e => ∃ y10, e = [some (.s (.tup [PA, .tup (ra.map rowD)])), some (.s (.int p)), some (.s (.tup [PB, .tup (rb.map rowD)])), some (.odt (liftT la)), some (.odt (liftT lb)), some (.s (.lst (rise.map D.int))), some (.ol ((((List.range k).map (rowOf rise S)).map rowD).map .s)), some (.s (.int (k : Int))), some (.s (.int x)), some (.ol ((((List.range j).map fun j => S (rise.getD k 0) (rise.getD j 0)).map D.int).map .s)), y10], ⟨_, rfl⟩, ?_, ?_⟩
      · rintro j v e hv ⟨y10, rfl⟩
        have hj : j < k := by
          have := (List.getElem?_eq_some_iff.mp hv).1
          rw [List.length_take] at this
          omega
        rw [List.getElem?_take_of_lt hj] at hv
        obtain ⟨y, hy, rfl⟩ := map_get hv
        have ey := getD_ints hy
        have my := rm y (List.mem_of_getElem? hy)
        have hne : x ≠ y := by
          intro e
          have h1 := (List.getElem?_eq_some_iff.mp hx).2
          have h2 := (List.getElem?_eq_some_iff.mp hy).2
          have := (List.getElem_inj rn).mp (h1.trans (e.trans h2.symm))
          omega
        have e9 : ((List.range j).map fun j => S (rise.getD k 0) (rise.getD j 0)).map D.int ++ [D.int (S x y)] = ((List.range (j + 1)).map fun j => S (rise.getD k 0) (rise.getD j 0)).map D.int := by
          rw [List.range_succ]
          simp only [List.map_append, List.map_cons, List.map_nil, ex, ey]
        refine ⟨_, rfl, ?_⟩
        walk_at "st"
        walk_at "go"
        refine r2_inT ?_
        walk_at "go"
        · rename_i h1
          walk_at "go"
          refine r2_inT ?_
          walk_at "go"
          · rename_i h2
            walk_at "go"
            have eS : S x y = colP pb rb x y := by rw [← hS]; unfold shF; rw [if_pos h1, if_pos h2]
            refine ⟨_, rfl, le_size (by simp), ?_⟩
            walk_at "go"
            refine r2_idxDT (gb x h1 y h2 hne) ?_
            walk_at "go"
            refine ⟨_, rfl, lt_size (by rw [List.length_map, List.length_map, List.length_range]; omega), ?_⟩
            walk_at "st"
            walk_at "go"
            rw [← eS, e9]
            exact ⟨_, rfl⟩
          · rename_i h2
            have hy1 := my.resolve_right h2
            walk_at "go"
            refine r2_inT ?_
            walk_at "go"
            · walk_at "go"
              have eS : S x y = colP pa ra p y := by rw [← hS]; unfold shF; rw [if_pos h1, if_neg h2]
              refine ⟨_, rfl, le_size (by simp), ?_⟩
              walk_at "go"
              refine r2_idxDT (ga p hp y hy1.1 (Ne.symm hy1.2)) ?_
              walk_at "go"
              refine ⟨_, rfl, lt_size (by rw [List.length_map, List.length_map, List.length_range]; omega), ?_⟩
              walk_at "st"
              walk_at "go"
              rw [← eS, e9]
              exact ⟨_, rfl⟩
            · rename_i h3; exact absurd h1 h3
        · rename_i h1
          have hx1 := mx.resolve_right h1
          walk_at "go"
          refine r2_inT ?_
          walk_at "go"
          · rename_i h3; exact absurd h3 h1
          · walk_at "go"
            refine r2_inT ?_
            walk_at "go"
            · rename_i h2
              walk_at "go"
              have eS : S x y = colP pa ra x p := by rw [← hS]; unfold shF; rw [if_neg h1, if_pos h2]
              refine ⟨_, rfl, le_size (by simp), ?_⟩
              walk_at "go"
              refine r2_idxDT (ga x hx1.1 p hp hx1.2) ?_
              walk_at "go"
              refine ⟨_, rfl, lt_size (by rw [List.length_map, List.length_map, List.length_range]; omega), ?_⟩
              walk_at "st"
              walk_at "go"
              rw [← eS, e9]
              exact ⟨_, rfl⟩
            · rename_i h2
              have hy1 := my.resolve_right h2
              walk_at "go"
              have eS : S x y = colP pa ra x y := by rw [← hS]; unfold shF; rw [if_neg h1, if_neg h2]
              refine ⟨_, rfl, le_size (by simp), ?_⟩
              walk_at "go"
              refine r2_idxDT (ga x hx1.1 y hy1.1 hne) ?_
              walk_at "go"
              refine ⟨_, rfl, lt_size (by rw [List.length_map, List.length_map, List.length_range]; omega), ?_⟩
              walk_at "st"
              walk_at "go"
              rw [← eS, e9]
              exact ⟨_, rfl⟩
      · rintro e ⟨y10, rfl⟩
        rw [show ((rise.map D.int).take k).length = k by rw [List.length_take, List.length_map]; omega]
        walk_at "gs"
        refine ⟨_, rfl, lt_size (by rw [List.length_map, List.length_map, List.length_range]; omega), ?_⟩
        walk_at "st"
        walk_at "gs"
        have e1 : D.tup (((List.range k).map fun j => S (rise.getD k 0) (rise.getD j 0)).map D.int) = rowD (rowOf rise S k) := rfl
        have e2 : ((List.range k).map (rowOf rise S)).map rowD ++ [rowD (rowOf rise S k)] = ((List.range (k + 1)).map (rowOf rise S)).map rowD := by
          rw [List.range_succ]
          simp only [List.map_append, List.map_cons, List.map_nil]
        rw [e1, e2]
        exact ⟨_, _, _, _, rfl⟩
    · rintro e ⟨y7, y8, y9, y10, rfl⟩
      rw [show (enumD (rise.map D.int)).length = rise.length by simp [enumD]]
      walk_at "gs"
      rfl
end
theorem ws_setIJ {C : CallS} {e : MW.Env} {K : SOut → Prop} {i : Nat} {k a : ME} (q : WE C a e fun x e1 => TD x fun d => ∃ l, e1[i]? = some (some (.ol l)) ∧ WE C k e1 fun y e2 => TD y fun kd => ∃ j : Nat, kd = .int j ∧ e2[i]? = some (some (.ol l)) ∧ j < l.length ∧ K (.nx (e2.set i (some (.ol (l.set j (.s d))))))) : WS C (.setI i k a) e K := by
  obtain ⟨x, e1, h1, l, hl, y, e2, h2, j, hj, hl2, hlt, q⟩ := q
  have hx : setItemO (.ol l) y.toD x.toD = some (.ol (l.set j (.s x.toD))) := by
    rw [hj]
    unfold setItemO
    dsimp only
    have : ixN l.length (j : Int) = some j := by unfold ixN; rw [if_pos (by omega), if_pos (by omega)]; simp
    rw [this]
    rfl
  unfold WS
  simp only [ex, h1, SOut.of, hl, isOl, if_true, h2, hl2, hx]
  exact q
theorem nd_set : ∀ {l : List Int} {n : Nat} {p : Int}, l.Nodup → p ∉ l → (l.set n p).Nodup
  | [], n, p, h, _ => by simp
  | a :: l, 0, p, h, hp => by
    rw [List.set_cons_zero, List.nodup_cons]
    exact ⟨fun z => hp (List.mem_cons_of_mem _ z), (List.nodup_cons.mp h).2⟩
  | a :: l, n + 1, p, h, hp => by
    rw [List.set_cons_succ, List.nodup_cons]
    refine ⟨fun z => ?_, nd_set (List.nodup_cons.mp h).2 fun z => hp (List.mem_cons_of_mem _ z)⟩
    rcases List.mem_or_eq_of_mem_set z with z | z
    · exact (List.nodup_cons.mp h).1 z
    · exact hp (by rw [z]; exact List.mem_cons_self)
/-- two nets drawn, the second to be filled into a place of the first -/
structure TwoOk (m q : Nat) (pa pb : List Int) (ra rb : List (List Int)) (p : Int) : Prop where
  la : pa.length = m
  lb : pb.length = q
  ra : RowsOk pa.length ra
  rb : RowsOk pb.length rb
  na : pa.Nodup
  nb : pb.Nodup
  hp : p ∈ pa
  hd : ∀ x ∈ pb, x ∈ pa → x = p
  ba : ∀ x ∈ pa, 0 ≤ x ∧ x < 100000000000000000000000000000000
  bb : ∀ x ∈ pb, 0 ≤ x ∧ x < 100000000000000000000000000000000
  wa : pa.Pairwise (· < ·)
  wb : pb.Pairwise (· < ·)
theorem map_atI {f : Int → D} {l : List Int} {j : Nat} (h : j < l.length) : atI (l.map f) (j : Int) = some (f (l.getD j 0)) :=
  atI_nat' (by rw [List.getElem?_map, List.getD_eq_getElem?_getD, List.getElem?_eq_getElem h]; rfl)
set_option maxHeartbeats 2000000 in
theorem two107_at (d : Nat) (ns : List Int) (m q N : Nat) (hm : 1 ≤ m) (hm2 : m ≤ 24) (hq : 1 ≤ q) (hq2 : q ≤ 24) :
    ∃ pa pb ra rb p, TwoOk m q pa pb ra rb p ∧ evF T (d + 5) 107 [.s (.scr (ns.map .int)), .s (.int m), .s (.int q), .s (.int N)] = .ok (.s (.tup [netP pa ra, .int p, netP pb rb])) := by
  obtain ⟨pl, ra, l1, w1, b1, R1, h1⟩ := net44B_at d ns 1 m hm2
  obtain ⟨pl2, rb, l2, w2, b2, R2, h2⟩ := net44B_at d ns 3 q hq2
  have pn : N % m < (pl.map fun x => 2 * x).length := by rw [List.length_map, l1]; exact Nat.mod_lt _ hm
  have wA : (pl.map fun x => 2 * x).Pairwise (· < ·) := List.pairwise_map.mpr (w1.imp fun {a b} h => by omega)
  have nA : (pl.map fun x => 2 * x).Nodup := by
    refine List.Pairwise.imp (fun {a b} h => Int.ne_of_lt h) (List.pairwise_map.mpr (w1.imp fun {a b} h => ?_))
    show 2 * a < 2 * b
    omega
  have nB : (pl2.map fun x => 2 * x + 1).Nodup := by
    refine List.Pairwise.imp (fun {a b} h => Int.ne_of_lt h) (List.pairwise_map.mpr (w2.imp fun {a b} h => ?_))
    show 2 * a + 1 < 2 * b + 1
    omega
  have mA : ∀ x ∈ pl.map (fun x => 2 * x), ∃ z, x = 2 * z ∧ 0 ≤ z ∧ z < 10000000000000000000000000000000 := fun x hx => by
    obtain ⟨z, hz, rfl⟩ := List.mem_map.mp hx
    exact ⟨z, rfl, b1 z hz⟩
  have mB : ∀ x ∈ pl2.map (fun x => 2 * x + 1), ∃ z, x = 2 * z + 1 ∧ 0 ≤ z ∧ z < 10000000000000000000000000000000 := fun x hx => by
    obtain ⟨z, hz, rfl⟩ := List.mem_map.mp hx
    exact ⟨z, rfl, b2 z hz⟩
  have hpA := getD_memI pn
  generalize hp : (pl.map fun x => 2 * x).getD (N % m) 0 = p at hpA
  have key : ∃ r, evF T (d + 5) 107 [.s (.scr (ns.map .int)), .s (.int m), .s (.int q), .s (.int N)] = .ok r ∧ ∃ qs : List Int, (qs.length = q ∧ qs.Nodup ∧ ∀ x ∈ qs, x ∈ pl2.map (fun x => 2 * x + 1) ∨ x = p) ∧ r = .s (.tup [netP (pl.map fun x => 2 * x) ra, .int p, netP (qs.mergeSort (leK id)) rb]) := by
    refine call_ok (F := F107) rfl rfl ?_
    show WSs _ (MSs.cons _ _) [some (.s (.scr (ns.map .int))), some (.s (.int m)), some (.s (.int q)), some (.s (.int N)), none, none, none, none] _
    walk_at "gs"
    refine ⟨_, h1, ?_⟩
    unfold netX
    walk_at "gs"
    with_reducible refine w_map (α := Int) (wi_seq ?_)
    walk_at "gs"
    refine ⟨_, rfl, rfl, pl, D.int, fun x => D.int (2 * x), rfl, le_size (by omega), fun j x hx => ⟨_, rfl, ?_⟩, ?_⟩
    · walk_at "gs"
      exact ⟨rfl, rfl, rfl⟩
    walk_at "gs"
    refine ⟨_, h2, ?_⟩
    unfold netX
    walk_at "gs"
    with_reducible refine w_map (α := Int) (wi_seq ?_)
    walk_at "gs"
    refine ⟨_, rfl, rfl, pl2, D.int, fun x => D.int (2 * x + 1), rfl, le_size (by omega), fun j x hx => ⟨_, rfl, ?_⟩, ?_⟩
    · walk_at "gs"
      exact ⟨rfl, rfl, rfl⟩
    have eA : (pl.map fun x => D.int (2 * x)) = (pl.map fun x => 2 * x).map D.int := by rw [List.map_map]; rfl
    have eB : (pl2.map fun x => D.int (2 * x + 1)) = (pl2.map fun x => 2 * x + 1).map D.int := by rw [List.map_map]; rfl
    rw [eA, eB]
    walk_at "gs"
    have ei : (N : Int) % (m : Int) = ((N % m : Nat) : Int) := by omega
    rw [ei]
    refine r2_idxT (map_atI pn) ?_
    rw [hp]
    walk_at "gs"
    with_reducible refine ws_ifJ (fun e => ∃ qs : List Int, (qs.length = q ∧ qs.Nodup ∧ ∀ x ∈ qs, x ∈ pl2.map (fun x => 2 * x + 1) ∨ x = p) ∧ e = [some (.s (.scr (ns.map .int))), some (.s (.int m)), some (.s (.int q)), some (.s (.int N)), some (.s (.tup [.tup ((pl.map fun x => 2 * x).map D.int), .tup (ra.map rowD)])), some (.s (.tup [tupD (pl2.map D.int), .tup (rb.map rowD)])), some (.ol ((qs.map D.int).map .s)), some (.s (.int p))]) ?_ ?_
    · walk_at "go"
      · refine ws_setIJ ?_
        walk_at "go"
        refine ⟨_, rfl, ?_⟩
        walk_at "go"
        have pB : p ∉ pl2.map fun x => 2 * x + 1 := fun z => by
          obtain ⟨a, ea, _⟩ := mB p z
          obtain ⟨b, eb, _⟩ := mA p hpA
          omega
        refine ⟨N / 72 % q, by simp, rfl, by simp only [List.length_map, l2]; exact Nat.mod_lt _ hq, ?_⟩
        walk_at "st"
        walk_at "go"
        refine ⟨(pl2.map fun x => 2 * x + 1).set (N / 72 % q) p, ⟨by rw [List.length_set, List.length_map, l2], nd_set nB pB, fun x hx => ?_⟩, ?_⟩
        · exact List.mem_or_eq_of_mem_set hx
        · simp only [List.map_set]
      · exact ⟨_, ⟨by rw [List.length_map, l2], nB, fun x hx => .inl hx⟩, rfl⟩
    · rintro e ⟨qs, hqs, rfl⟩
      walk_at "go"
      refine r1_sortedI (le_size (by omega)) ?_
      walk_at "go"
      exact ⟨qs, hqs, rfl⟩
  obtain ⟨r, h, qs, ⟨q1, q2, q3⟩, rfl⟩ := key
  have mq : ∀ x, x ∈ qs.mergeSort (leK id) ↔ x ∈ qs := fun x => (List.mergeSort_perm _ _).mem_iff
  have lq : (qs.mergeSort (leK id)).length = q := by rw [(List.mergeSort_perm _ _).length_eq]; exact q1
  refine ⟨_, _, ra, rb, p, ⟨by rw [List.length_map]; exact l1, lq, by rw [List.length_map, l1]; exact R1, by rw [lq]; exact R2, nA, (List.mergeSort_perm _ _).nodup_iff.mpr q2, hpA, fun x hx hxa => ?_, fun x hx => ?_, fun x hx => ?_, wA, ?_⟩, h⟩
  · rcases q3 x ((mq x).mp hx) with z | z
    · obtain ⟨a, ea, _⟩ := mB x z
      obtain ⟨b, eb, _⟩ := mA x hxa
      omega
    · exact z
  · obtain ⟨b, eb, h0, h1⟩ := mA x hx
    omega
  · rcases q3 x ((mq x).mp hx) with z | z
    · obtain ⟨a, ea, h0, h1⟩ := mB x z
      omega
    · rw [z]
      obtain ⟨b, eb, h0, h1⟩ := mA p hpA
      omega
  · have n2 : (qs.mergeSort (leK id)).Nodup := (List.mergeSort_perm _ _).nodup_iff.mpr q2
    exact ((sortK_sorted (l := qs) (key := id)).and n2).imp fun {a b} h => Int.lt_iff_le_and_ne.mpr ⟨h.1, h.2⟩
/-! ### the tellers, of any net (gathered by mkN1.py) -/
section
variable {α β κ : Type} [DecidableEq κ] {key : α → κ} {val : α → β} {l : List α}
theorem valO_map (inj : ∀ a ∈ l, ∀ b ∈ l, key a = key b → a = b) {a : α} (ha : a ∈ l) : valO (l.map fun x => (key x, val x)) (key a) = some (val a) := by
  induction l with
  | nil => cases ha
  | cons x l ih =>
    simp only [List.map_cons, valO, List.find?_cons]
    by_cases e : key x = key a
    · have := inj x (by simp) a ha e
      subst this
      simp
    · simp only [e, decide_false]
      rcases List.mem_cons.mp ha with rfl | ha
      · exact absurd rfl e
      · exact ih (fun a ha b hb => inj a (by simp [ha]) b (by simp [hb])) ha
theorem valO_none {k : κ} (h : ∀ a ∈ l, key a ≠ k) : valO (l.map fun x => (key x, val x)) k = none := by
  simp only [valO, Option.map_eq_none_iff, List.find?_eq_none]
  intro p hp
  obtain ⟨a, ha, rfl⟩ := List.mem_map.mp hp
  simp [h a ha]
theorem putD_new {k : κ} {v : β} (h : ∀ a ∈ l, key a ≠ k) : putD (l.map fun x => (key x, val x)) k v = (l.map fun x => (key x, val x)) ++ [(k, v)] := by
  have e : ((l.map fun x => (key x, val x)).any fun p => decide (p.1 = k)) = false := by
    rw [List.any_eq_false]
    intro p hp
    obtain ⟨a, ha, rfl⟩ := List.mem_map.mp hp
    simp [h a ha]
  unfold putD
  rw [e]
  rfl
theorem putO_map [DecidableEq α] (nd : l.Nodup) (inj : ∀ a ∈ l, ∀ b ∈ l, key a = key b → a = b) {a : α} (ha : a ∈ l) {v : β} : putO (l.map fun x => (key x, val x)) (key a) v = l.map fun x => (key x, if x = a then v else val x) := by
  induction l with
  | nil => cases ha
  | cons x l ih =>
    obtain ⟨n1, n2⟩ := List.nodup_cons.mp nd
    simp only [List.map_cons, putO]
    by_cases e : key x = key a
    · have := inj x (by simp) a ha e
      subst this
      simp only [if_true]
      congr 1
      refine List.map_congr_left fun y hy => ?_
      rw [if_neg (fun (z : y = x) => n1 (by rw [← z]; exact hy))]
    · have hx : ¬ x = a := fun z => e (by rw [z])
      rw [if_neg e, if_neg hx]
      rcases List.mem_cons.mp ha with rfl | ha
      · exact absurd rfl e
      · rw [ih n2 (fun a ha b hb => inj a (by simp [ha]) b (by simp [hb])) ha]
end
def innOD (pl : List Int) (rows : List (List Int)) (m : Nat) (adj : Nat → Nat → Bool) (a : Nat) : List (Key × OD) := ((List.range m).filter (adj a)).map fun b => (Sum.inl (pl.getD b 0), .s (.int (col rows a b)))
def byOD (pl : List Int) (rows : List (List Int)) (m : Nat) (adj : Nat → Nat → Bool) : List (Key × OD) := (List.range m).map fun a => (Sum.inl (pl.getD a 0), .odk (innOD pl rows m adj a))
def adjT (k j a b : Nat) : Bool := decide ((a < k ∧ b < k ∧ a ≠ b) ∨ (a = k ∧ b < j) ∨ (b = k ∧ a < j))
def adjH (k j a b : Nat) : Bool := decide ((a < k ∧ b < k ∧ a ≠ b) ∨ (a = k ∧ b < j + 1) ∨ (b = k ∧ a < j))
def adjN (a b : Nat) : Bool := decide (a ≠ b)
theorem flt_ext {p q : Nat → Bool} {m : Nat} (h : ∀ b, b < m → p b = q b) : (List.range m).filter p = (List.range m).filter q := List.filter_congr fun b hb => h b (List.mem_range.mp hb)
theorem inn_ext {pl : List Int} {rows : List (List Int)} {m : Nat} {f g : Nat → Nat → Bool} {a : Nat} (h : ∀ b, b < m → f a b = g a b) : innOD pl rows m f a = innOD pl rows m g a := by
  unfold innOD
  rw [flt_ext h]
theorem by_ext {pl : List Int} {rows : List (List Int)} {m : Nat} {f g : Nat → Nat → Bool} (h : ∀ a b, a < m → b < m → f a b = g a b) : byOD pl rows m f = byOD pl rows m g := by
  unfold byOD
  exact List.map_congr_left fun a ha => by rw [inn_ext fun b hb => h a b (List.mem_range.mp ha) hb]
theorem flt_snoc {p q : Nat → Bool} {m j : Nat} (hj : j < m) (h1 : ∀ b, b < j → p b = q b) (h2 : p j = false) (h3 : q j = true) (h4 : ∀ b, j < b → b < m → p b = false ∧ q b = false) : (List.range m).filter q = (List.range m).filter p ++ [j] := by
  have e : List.range m = List.range j ++ (j :: (List.range (m - j - 1)).map (· + (j + 1))) := by
    have : m = j + (1 + (m - j - 1)) := by omega
    conv => lhs; rw [this, List.range_add, List.range_add]
    simp [Function.comp_def, Nat.add_comm, Nat.add_left_comm]
  have z : ∀ r : Nat → Bool, (∀ b, j < b → b < m → r b = false) → ((List.range (m - j - 1)).map (· + (j + 1))).filter r = [] := fun r hr => by
    rw [List.filter_eq_nil_iff]
    intro b hb
    obtain ⟨i, hi, rfl⟩ := List.mem_map.mp hb
    have := List.mem_range.mp hi
    rw [hr _ (by omega) (by omega)]
    simp
  rw [e, List.filter_append, List.filter_append, List.filter_cons, List.filter_cons, h2, h3, z p fun b x y => (h4 b x y).1, z q fun b x y => (h4 b x y).2, flt_ext h1]
  simp
theorem pl_inj {pl : List Int} (nd : pl.Nodup) {a b : Nat} (ha : a < pl.length) (hb : b < pl.length) (h : (Sum.inl (pl.getD a 0) : Key) = Sum.inl (pl.getD b 0)) : a = b := by
  have h := Sum.inl.inj h
  rw [List.getD_eq_getElem?_getD, List.getD_eq_getElem?_getD, List.getElem?_eq_getElem ha, List.getElem?_eq_getElem hb] at h
  exact (List.getElem_inj nd).mp h
/-- one more colour, told at a of b -/
theorem by_put {pl : List Int} (nd : pl.Nodup) {rows : List (List Int)} {m : Nat} (hm : m ≤ pl.length) {f g : Nat → Nat → Bool} {a b : Nat} (ha : a < m) (hb : b < m) (h0 : ∀ x y, x < m → y < m → x ≠ a → f x y = g x y) (h1 : ∀ y, y < b → f a y = g a y) (h2 : f a b = false) (h3 : g a b = true)
    (h4 : ∀ y, b < y → y < m → f a y = false ∧ g a y = false) :
    valO (byOD pl rows m f) (Sum.inl (pl.getD a 0)) = some (.odk (innOD pl rows m f a)) ∧ putO (byOD pl rows m f) (Sum.inl (pl.getD a 0)) (.odk (putD (innOD pl rows m f a) (Sum.inl (pl.getD b 0)) (.s (.int (col rows a b))))) = byOD pl rows m g := by
  have inj : ∀ x ∈ List.range m, ∀ y ∈ List.range m, (Sum.inl (pl.getD x 0) : Key) = Sum.inl (pl.getD y 0) → x = y := fun x hx y hy e => pl_inj nd (by have := List.mem_range.mp hx; omega) (by have := List.mem_range.mp hy; omega) e
  have hn : putD (innOD pl rows m f a) (Sum.inl (pl.getD b 0)) (.s (.int (col rows a b))) = innOD pl rows m g a := by
    unfold innOD
    rw [putD_new fun y hy e => ?_, flt_snoc hb h1 h2 h3 h4, List.map_append]
    · rfl
    · obtain ⟨q1, q2⟩ := List.mem_filter.mp hy
      have := inj y q1 b (List.mem_range.mpr hb) e
      rw [this, h2] at q2
      cases q2
  refine ⟨valO_map inj (List.mem_range.mpr ha), ?_⟩
  rw [hn]
  unfold byOD
  rw [putO_map List.nodup_range inj (List.mem_range.mpr ha)]
  refine List.map_congr_left fun x hx => ?_
  have hx := List.mem_range.mp hx
  by_cases e : x = a
  · rw [if_pos e, e]
  · rw [if_neg e, inn_ext fun y hy => h0 x y hx hy e]
def netD (pl : List Int) (rows : List (List Int)) : D := .tup [.tup (pl.map D.int), .tup (rows.map rowD)]
def byO (pl : List Int) (rows : List (List Int)) : OD := .odk (byOD pl rows pl.length adjN)
theorem shades_by_at (d : Nat) {N : D} (pl : List Int) (rows : List (List Int)) (hN : NetD N pl rows) (nd : pl.Nodup) (R : RowsOk pl.length rows) (hn : pl.length ≤ 1000) : evF T (d + 1) 57 [.s N] = .ok (byO pl rows) := by
  obtain ⟨P, rfl, hP⟩ := hN
  refine ret_is (call_ok (F := F57) rfl rfl ?_)
  show WSs _ (MSs.cons _ _) [some (.s (.tup [P, .tup (rows.map rowD)])), none, none, none, none, none] _
  walk_at "go"
  with_reducible refine w_dnew ?_
  walk_at "ms"
  walk_at "go"
  with_reducible refine ws_for (wi_enumT ?_)
  walk_at "go"
  refine ⟨_, rfl, fun k e => ∃ y2 y3 y4 y5, e = [some (.s (.tup [P, .tup (rows.map rowD)])), some (.odk (byOD pl rows k adjN)), y2, y3, y4, y5], ⟨none, none, none, none, rfl⟩, ?_, ?_⟩
  · rintro k x e hx ⟨y2, y3, y4, y5, rfl⟩
    have hk : k < pl.length := by
      have := (List.getElem?_eq_some_iff.mp hx).1
      simpa [enumD] using this
    have ex : x = .tup [.int (k : Nat), .int (pl.getD k 0)] := by
      have : (enumD (pl.map D.int))[k]? = some (.tup [.int (k : Nat), .int (pl.getD k 0)]) := by
        simp [enumD, List.getElem?_map, List.getElem?_zipIdx, List.getElem?_eq_getElem hk, List.getD_eq_getElem?_getD]
      rw [hx] at this; exact Option.some.inj this
    subst ex
    refine ⟨_, rfl, ?_⟩
    walk_at "st"
    walk_at "go"
    with_reducible refine ws_setDN ?_
    refine ⟨rfl, ?_⟩
    walk_at "go"
    refine ⟨byOD pl rows k adjN, Sum.inl (pl.getD k 0), rfl, rfl, by simp [byOD]; exact lt_size (by omega), valO_none fun a ha e => ?_, ?_⟩
    · have ha := List.mem_range.mp ha
      have := pl_inj nd (by omega) hk e
      omega
    have e0 : byOD pl rows k adjN ++ [((Sum.inl (pl.getD k 0) : Key), OD.odk [])] = byOD pl rows (k + 1) (adjT k 0) := by
      unfold byOD
      rw [List.range_succ, List.map_append]
      congr 1
      · refine List.map_congr_left fun a ha => ?_
        have ha := List.mem_range.mp ha
        congr 2
        unfold innOD
        congr 1
        rw [List.range_succ, List.filter_append]
        have : List.filter (adjT k 0 a) [k] = [] := by simp [adjT]
        rw [this, List.append_nil]
        refine flt_ext fun b hb => ?_
        unfold adjN adjT
        rw [decide_eq_decide]
        omega
      · simp only [List.map_cons, List.map_nil]
        congr 2
        unfold innOD
        rw [show (List.range (k + 1)).filter (adjT k 0 k) = [] from ?_]
        · rfl
        · rw [List.filter_eq_nil_iff]
          intro b hb
          unfold adjT
          simp
    rw [e0]
    walk_at "st"
    walk_at "go"
    with_reducible refine ws_for (wi_zipT ?_)
    walk_at "go"
    refine r2_hiT (k := k) rfl ?_
    walk_at "go"
    have hrk : k < rows.length := by rw [R.len]; exact hk
    have hrow : (rows.getD k []).length = k := R.row k _ (getD_get hrk)
    refine r2_idxT (d := .tup ((rows.getD k []).map D.int)) (atI_nat' ?_) ?_
    · rw [List.getElem?_map, getD_get hrk]; rfl
    walk_at "go"
    refine ⟨(pl.map D.int).take k, (rows.getD k []).map D.int, rfl, rfl, fun j e => ∃ y4 y5, e = [some (.s (.tup [P, .tup (rows.map rowD)])), some (.odk (byOD pl rows (k + 1) (adjT k j))), some (.s (.int (k : Int))), some (.s (.int (pl.getD k 0))), y4, y5], ⟨_, _, rfl⟩, ?_, ?_⟩
    · rintro j x e hx ⟨y4, y5, rfl⟩
      have hl : (zipD ((pl.map D.int).take k) ((rows.getD k []).map D.int)).length = k := by
        simp only [zipD, List.length_map, List.length_zip, List.length_take, hrow]; omega
      have hj : j < k := by have := (List.getElem?_eq_some_iff.mp hx).1; omega
      have ex : x = .tup [.int (pl.getD j 0), .int (col rows k j)] := by
        obtain ⟨d1, d2, h1, h2, rfl⟩ := zipD_get hx
        rw [List.getElem?_take, if_pos hj, List.getElem?_map, getD_get (z := 0) (by omega)] at h1
        cases h1
        have hc : col rows k j = (rows.getD k []).getD j 0 := by unfold col; rw [Nat.max_eq_left (by omega), Nat.min_eq_right (by omega)]
        rw [List.getElem?_map, getD_get (z := 0) (by omega)] at h2
        cases h2
        rw [hc]
      subst ex
      refine ⟨_, rfl, ?_⟩
      walk_at "st"
      obtain ⟨p1, p2⟩ := by_put nd (rows := rows) (m := k + 1) (by omega) (f := adjT k j) (g := adjH k j) (a := k) (b := j) (by omega) (by omega) (fun x y hx hy hxa => by unfold adjT adjH; rw [decide_eq_decide]; omega)
        (fun y hy => by unfold adjT adjH; rw [decide_eq_decide]; omega) (by unfold adjT; simp; omega) (by unfold adjH; simp) (fun y h5 h6 => ⟨by unfold adjT; rw [decide_eq_false_iff_not]; omega, by unfold adjH; rw [decide_eq_false_iff_not]; omega⟩)
      obtain ⟨p3, p4⟩ := by_put nd (rows := rows) (m := k + 1) (by omega) (f := adjH k j) (g := adjT k (j + 1)) (a := j) (b := k) (by omega) (by omega) (fun x y hx hy hxa => by unfold adjT adjH; rw [decide_eq_decide]; omega)
        (fun y hy => by unfold adjT adjH; rw [decide_eq_decide]; omega) (by unfold adjH; rw [decide_eq_false_iff_not]; omega) (by unfold adjT; rw [decide_eq_true_iff]; omega) (fun y h5 h6 => by omega)
      rw [col_comm] at p4
      have ln : ∀ f a, (innOD pl rows (k + 1) f a).length < sizeLine := fun f a => by
        unfold innOD
        rw [List.length_map]
        have := List.length_filter_le (f a) (List.range (k + 1))
        rw [List.length_range] at this
        exact lt_size (by omega)
      walk_at "go"
      with_reducible refine ws_setDD ?_
      walk_at "go"
      refine ⟨_, _, _, _, _, _, rfl, rfl, rfl, rfl, rfl, p1, ln _ _, ?_⟩
      rw [p2]
      walk_at "st"
      walk_at "go"
      with_reducible refine ws_setDD ?_
      walk_at "go"
      refine ⟨_, _, _, _, _, _, rfl, rfl, rfl, rfl, rfl, p3, ln _ _, ?_⟩
      rw [p4]
      walk_at "st"
      walk_at "go"
      exact ⟨_, _, rfl⟩
    · rintro e ⟨y4, y5, rfl⟩
      have hl : (zipD ((pl.map D.int).take k) ((rows.getD k []).map D.int)).length = k := by
        simp only [zipD, List.length_map, List.length_zip, List.length_take, hrow]; omega
      rw [hl]
      have e1 : byOD pl rows (k + 1) (adjT k k) = byOD pl rows (k + 1) adjN := by_ext fun a b ha hb => by unfold adjT adjN; rw [decide_eq_decide]; omega
      rw [e1]
      walk_at "go"
      exact ⟨_, _, _, _, rfl⟩
  · rintro e ⟨y2, y3, y4, y5, rfl⟩
    rw [show (enumD (pl.map D.int)).length = pl.length by simp [enumD]]
    walk_at "go"
    rfl
def innD (pl : List Int) (rows : List (List Int)) (a : Nat) : List (Key × D) := ((List.range pl.length).filter (adjN a)).map fun b => (Sum.inl (pl.getD b 0), .int (col rows a b))
def byD (pl : List Int) (rows : List (List Int)) : List (Key × D) := (List.range pl.length).map fun a => (Sum.inl (pl.getD a 0), .dk (innD pl rows a))
theorem toDk_map : ∀ l : List (Key × OD), OD.toDk l = l.map fun p => (p.1, p.2.toD)
  | [] => rfl
  | (k, o) :: l => by simp only [OD.toDk, List.map_cons, toDk_map l]
theorem byO_toD (pl : List Int) (rows : List (List Int)) : (byO pl rows).toD = .dk (byD pl rows) := by
  simp only [byO, OD.toD, toDk_map, byOD, byD, List.map_map]
  congr 1
  refine List.map_congr_left fun a _ => ?_
  simp only [Function.comp, OD.toD, toDk_map, innOD, innD, List.map_map]
  congr 1
theorem pl_injL {pl : List Int} (nd : pl.Nodup) {l : List Nat} (hl : ∀ a ∈ l, a < pl.length) : ∀ a ∈ l, ∀ b ∈ l, (Sum.inl (pl.getD a 0) : Key) = Sum.inl (pl.getD b 0) → a = b := fun a ha b hb e => pl_inj nd (hl a ha) (hl b hb) e
theorem by_get {pl : List Int} (nd : pl.Nodup) {rows : List (List Int)} {p : Int} (h : p ∈ pl) : valO (byD pl rows) (Sum.inl p) = some (.dk (innD pl rows (pl.idxOf p))) := by
  have := valO_map (key := fun a => (Sum.inl (pl.getD a 0) : Key)) (val := fun a => D.dk (innD pl rows a)) (pl_injL nd (l := List.range pl.length) fun a ha => List.mem_range.mp ha) (List.mem_range.mpr (idx_lt h))
  rw [idx_get h] at this
  exact this
theorem inn_get {pl : List Int} (nd : pl.Nodup) {rows : List (List Int)} {p q : Int} (h : p ∈ pl) (hq : q ∈ pl) (hne : p ≠ q) : valO (innD pl rows (pl.idxOf p)) (Sum.inl q) = some (.int (colP pl rows p q)) := by
  have hi : pl.idxOf p ≠ pl.idxOf q := fun e => hne (by rw [← idx_get h, e, idx_get hq])
  have := valO_map (key := fun b => (Sum.inl (pl.getD b 0) : Key)) (val := fun b => D.int (col rows (pl.idxOf p) b)) (l := (List.range pl.length).filter (adjN (pl.idxOf p))) (pl_injL nd fun a ha => List.mem_range.mp (List.mem_filter.mp ha).1) (a := pl.idxOf q)
    (List.mem_filter.mpr ⟨List.mem_range.mpr (idx_lt hq), decide_eq_true hi⟩)
  rw [idx_get hq] at this
  exact this
theorem by_keys (pl : List Int) (rows : List (List Int)) : ((byD pl rows).map fun p => dkey p.1) = pl.map D.int := by
  unfold byD
  rw [List.map_map]
  apply List.ext_getElem?
  intro i
  rw [List.getElem?_map, List.getElem?_map]
  by_cases hi : i < pl.length
  · rw [List.getElem?_range hi, List.getElem?_eq_getElem hi]
    simp [dkey, List.getD_eq_getElem?_getD, List.getElem?_eq_getElem hi]
  · rw [List.getElem?_eq_none (by simpa using hi), List.getElem?_eq_none (by omega)]
    rfl
theorem drop_get {α : Type} {l : List α} {j : Nat} {x : α} (h : l[j]? = some x) : l.drop j = x :: l.drop (j + 1) := by
  obtain ⟨hj, e⟩ := List.getElem?_eq_some_iff.mp h
  rw [List.drop_eq_getElem_cons hj, e]
theorem fs_step {α β : Type} {l : List α} {j : Nat} {x : α} (f : α → Option β) (h : l[j]? = some x) : (l.drop j).findSome? f = (match f x with | some b => some b | none => (l.drop (j + 1)).findSome? f) := by
  rw [drop_get h, List.findSome?_cons]
  cases f x <;> rfl
theorem fd_step {α : Type} {l : List α} {j : Nat} {x : α} (p : α → Bool) (h : l[j]? = some x) : (l.drop j).find? p = (if p x = true then some x else (l.drop (j + 1)).find? p) := by
  rw [drop_get h, List.find?_cons]
  cases p x <;> rfl
def resK (P : CRes → Prop) : SOut → Prop
  | .nx _ => P (.ok (.s .non))
  | .rt r _ => P (.ok r)
  | .exc c _ => P (.exc c)
  | _ => False
theorem call_x {T : Nat → Option Fn} {f d : Nat} {F : Fn} {ods : List OD} {P : CRes → Prop} (hT : T f = some F) (hn : ods.length = F.np) (q : WSs (evF T d) F.body (ods.map some ++ List.replicate (F.ns - F.np) none) (resK P)) : P (evF T (d + 1) f ods) := by
  unfold WSs at q
  simp only [evF_succ, hT, callF, if_pos hn]
  revert q
  cases exs (evF T d) F.body (ods.map some ++ List.replicate (F.ns - F.np) none) with
  | nx e => exact fun q => q
  | rt r e => exact fun q => q
  | bk e => exact fun q => q.elim
  | ct e => exact fun q => q.elim
  | exc c e => exact fun q => q
  | bad => exact fun q => q.elim
theorem rx_rt {P : CRes → Prop} {e : MW.Env} {r : OD} (q : P (.ok r)) : resK P (.rt r e) := q
theorem rx_nx {P : CRes → Prop} {e : MW.Env} (q : P (.ok (.s .non))) : resK P (.nx e) := q
theorem ws_rai {C : CallS} {k : Nat} {e : MW.Env} {K : SOut → Prop} (q : K (.exc k e)) : WS C (.rai k) e K := q
theorem r1_sortedTI {ns : List Int} {Q : OD → Prop} (hz : ns.length ≤ sizeLine) (q : Q (.ol (((ns.mergeSort (leK id)).map D.int).map .s))) : R1 .sorted (.tup (ns.map D.int)) Q := ⟨_, sortD_intsE ns hz, q⟩
theorem sort_lt {ns : List Int} (h : ns.Pairwise (· < ·)) : ns.mergeSort (leK id) = ns :=
  List.mergeSort_of_pairwise (h.imp fun {a b} h => decide_eq_true (Int.le_of_lt h))
theorem lt_nodupI {ns : List Int} (h : ns.Pairwise (· < ·)) : ns.Nodup := h.imp fun {a b} h => Int.ne_of_lt h
theorem setof_noplace (d : Nat) (pl some_ : List Int) (h : ∃ x ∈ some_, x ∉ pl) : evF T (d + 1) 37 [.s (.tup (pl.map D.int)), .s (.lst (some_.map D.int))] = .exc 2 := by
  refine call_x (P := fun r => r = .exc 2) (F := F37) rfl rfl ?_
  show WSs _ (MSs.cons _ _) [some (.s (.tup (pl.map D.int))), some (.s (.lst (some_.map D.int))), none] _
  walk_at "gs"
  with_reducible refine ws_for (wi_seq ?_)
  walk_at "gs"
  refine ⟨_, rfl, fun j e => (∃ y, e = [some (.s (.tup (pl.map D.int))), some (.s (.lst (some_.map D.int))), y]) ∧ ∃ x ∈ some_.drop j, x ∉ pl, ⟨⟨_, rfl⟩, by rw [List.drop_zero]; exact h⟩, ?_, ?_⟩
  · rintro j x e hj ⟨⟨y, rfl⟩, hx⟩
    obtain ⟨v, hv, rfl⟩ := map_get hj
    rw [drop_get hv] at hx
    refine ⟨_, rfl, ?_⟩
    walk_at "st"
    walk_at "gs"
    refine ws_if ?_
    walk_at "gs"
    refine r2_ninT ?_
    walk_at "gs"
    · refine ws_rai ?_
      exact (rfl : CRes.exc 2 = .exc 2)
    · rename_i hm
      have hm : v ∈ pl := Decidable.not_not.mp hm
      obtain ⟨x, hx, hn⟩ := hx
      rcases List.mem_cons.mp hx with rfl | hx
      · exact absurd hm hn
      · exact ⟨⟨_, rfl⟩, x, hx, hn⟩
  · rintro e ⟨_, x, hx, _⟩
    rw [List.length_map, List.drop_length] at hx
    cases hx
theorem setof_noset (d : Nat) (pl : List Int) : evF T (d + 1) 37 [.s (.tup (pl.map D.int)), .s (.lst [])] = .exc 7 := by
  refine call_x (P := fun r => r = .exc 7) (F := F37) rfl rfl ?_
  show WSs _ (MSs.cons _ _) [some (.s (.tup (pl.map D.int))), some (.s (.lst [])), none] _
  walk_at "gs"
  with_reducible refine ws_for (wi_seq ?_)
  walk_at "gs"
  refine ⟨_, rfl, fun j e => e = [some (.s (.tup (pl.map D.int))), some (.s (.lst [])), none], rfl, ?_, ?_⟩
  · rintro j x e hj _
    cases hj
  · rintro e rfl
    walk_at "gs"
    refine ws_if ?_
    walk_at "gs"
    · refine ws_rai ?_
      exact (rfl : CRes.exc 7 = .exc 7)
    · rename_i hn
      exact absurd rfl hn
def inP (pl ms : List Int) : List Int := pl.filter fun p => decide (p ∈ ms)
theorem inP_fm (ms : List Int) : ∀ pl : List Int, ((pl.map fun p => if p ∈ ms then some (D.int p) else none).filterMap id) = (inP pl ms).map D.int
  | [] => rfl
  | k :: l => by
    have ih := inP_fm ms l
    unfold inP at ih ⊢
    by_cases h : k ∈ ms
    · simp only [List.map_cons, if_pos h, List.filterMap_cons, id]
      rw [List.filter_cons_of_pos (by simp [h]), List.map_cons]
      exact congrArg _ ih
    · simp only [List.map_cons, if_neg h, List.filterMap_cons, id]
      rw [List.filter_cons_of_neg (by simp [h])]
      exact ih
theorem setof_ok (d : Nat) (pl some_ : List Int) (pw : pl.Pairwise (· < ·)) (hn : pl.length ≤ 1000) (h : ∀ x ∈ some_, x ∈ pl) (hne : some_ ≠ []) : evF T (d + 1) 37 [.s (.tup (pl.map D.int)), .s (.lst (some_.map D.int))] = .ok (.ol (((inP pl some_).map D.int).map .s)) := by
  refine ret_is (call_ok (F := F37) rfl rfl ?_)
  show WSs _ (MSs.cons _ _) [some (.s (.tup (pl.map D.int))), some (.s (.lst (some_.map D.int))), none] _
  walk_at "gs"
  with_reducible refine ws_for (wi_seq ?_)
  walk_at "gs"
  refine ⟨_, rfl, fun j e => ∃ y : Option D, e = [some (.s (.tup (pl.map D.int))), some (.s (.lst (some_.map D.int))), y.map .s], ⟨none, rfl⟩, ?_, ?_⟩
  · rintro j x e hj ⟨y, rfl⟩
    obtain ⟨v, hv, rfl⟩ := map_get hj
    refine ⟨_, rfl, ?_⟩
    walk_at "st"
    walk_at "gs"
    refine ws_if ?_
    walk_at "gs"
    refine r2_ninT ?_
    walk_at "gs"
    · rename_i hm
      exact absurd (h v (List.mem_of_getElem? hv)) hm
    · exact ⟨some (.int v), rfl⟩
  · rintro e ⟨y, rfl⟩
    have hl : (some_.map D.int).length ≠ 0 := by rw [List.length_map]; exact fun z => hne (List.eq_nil_of_length_eq_zero z)
    walk_at "gs"
    refine ws_if ?_
    walk_at "gs"
    · rename_i hz
      exact absurd (by simpa using hz) hl
    · walk_at "gs"
      with_reducible refine w_comp (wi_seq ?_)
      walk_at "gs"
      refine r1_sortedTI (le_size (by omega)) ?_
      rw [sort_lt pw]
      walk_at "gs"
      have hw : wipeOk [2] [some (.s (.tup (pl.map D.int))), some (.s (.lst (some_.map D.int))), y.map OD.s] = true := by cases y <;> rfl
      refine ⟨_, rfl, hw, ?_, pl.map fun p => if p ∈ some_ then some (D.int p) else none, ?_, ?_, ?_⟩
      · rw [List.length_map]; exact le_size (by omega)
      · rw [List.length_map, List.length_map]
      · intro j x o hx ho
        obtain ⟨p, hp, rfl⟩ := map_get hx
        rw [List.getElem?_map, hp] at ho
        have eo : (if p ∈ some_ then some (D.int p) else none) = o := Option.some.inj ho
        refine ⟨_, rfl, wt_some ?_⟩
        walk_at "gs"
        refine r2_inI ?_
        refine t_some ?_
        by_cases hm : p ∈ some_
        · rw [if_pos hm] at eo
          subst eo
          rw [if_pos (by simp [hm])]
          walk_at "gs"
          exact ⟨rfl, rfl, rfl⟩
        · rw [if_neg hm] at eo
          subst eo
          rw [if_neg (by simp [hm])]
          exact ⟨rfl, rfl, rfl⟩
      · rw [inP_fm]
        walk_at "gs"
        rfl
def appP (pl : List Int) (rows : List (List Int)) (ms : List Int) (p : Int) : Option Int := (ms.drop 1).find? fun q => decide (colP pl rows p q ≠ colP pl rows p (ms.getD 0 0))
def tellPF (pl : List Int) (rows : List (List Int)) (ms : List Int) (p : Int) : Option (Int × Int × Int) := if p ∈ ms then none else (appP pl rows ms p).map fun q => (p, ms.getD 0 0, q)
def tellPP (pl : List Int) (rows : List (List Int)) (ms : List Int) : Option (Int × Int × Int) := pl.findSome? (tellPF pl rows ms)
def optD : Option Int → D
  | none => .non
  | some i => .int i
def tell3D : Option (Int × Int × Int) → D
  | none => .non
  | some (a, b, c) => .tup [.int a, .int b, .int c]
theorem told58_at (d : Nat) (pl : List Int) (rows : List (List Int)) (nd : pl.Nodup) (ms : List Int) (hm : ∀ x ∈ ms, x ∈ pl) (hne : ms ≠ []) {p : Int} (hp : p ∈ pl) (hpm : p ∉ ms) :
    evF T (d + 1) 58 [.s (.dk (innD pl rows (pl.idxOf p))), .s (.lst (ms.map D.int))] = .ok (.s (optD (appP pl rows ms p))) := by
  obtain ⟨ex, hE⟩ : ∃ ex, appP pl rows ms p = ex := ⟨_, rfl⟩
  rw [hE]
  have h0 : 0 < ms.length := List.length_pos_iff.mpr hne
  have m0 := getD_memI h0
  have g0 := inn_get nd (rows := rows) hp (hm _ m0) (fun z => hpm (z ▸ m0))
  refine ret_is (call_ok (F := F58) rfl rfl ?_)
  show WSs _ (MSs.cons _ _) [some (.s (.dk (innD pl rows (pl.idxOf p)))), some (.s (.lst (ms.map D.int))), none] _
  walk_at "gs"
  with_reducible refine ws_for (wi_seq ?_)
  walk_at "gs"
  refine r2_loL (k := 1) rfl ?_
  rw [← List.map_drop]
  walk_at "gs"
  refine ⟨_, rfl, fun j e => (∃ y : Option OD, e = [some (.s (.dk (innD pl rows (pl.idxOf p)))), some (.s (.lst (ms.map D.int))), y]) ∧ ((ms.drop 1).drop j).find? (fun q => decide (colP pl rows p q ≠ colP pl rows p (ms.getD 0 0))) = ex, ⟨⟨none, rfl⟩, hE⟩, ?_, ?_⟩
  · rintro j x e hj ⟨⟨y, rfl⟩, hx⟩
    obtain ⟨v, hv, rfl⟩ := map_get hj
    have mv : v ∈ ms := List.mem_of_mem_drop (List.mem_of_getElem? hv)
    rw [fd_step _ hv] at hx
    refine ⟨_, rfl, ?_⟩
    walk_at "st"
    walk_at "go"
    refine r2_idxK rfl (inn_get nd hp (hm v mv) (fun z => hpm (z ▸ mv))) ?_
    walk_at "go"
    refine r2_idxL (ints_at h0) ?_
    walk_at "go"
    refine r2_idxK rfl g0 ?_
    walk_at "go"
    · rename_i hc
      rw [if_pos (decide_eq_true hc)] at hx
      subst hx
      rfl
    · rename_i hc
      rw [if_neg (by rw [decide_eq_true_eq]; exact hc)] at hx
      exact ⟨⟨_, rfl⟩, hx⟩
  · rintro e ⟨⟨y, rfl⟩, hx⟩
    rw [List.length_map, List.drop_length] at hx
    subst hx
    walk_at "gs"
    rfl
theorem teller59_at (d : Nat) (pl : List Int) (rows : List (List Int)) (nd : pl.Nodup) (ms : List Int) (hm : ∀ x ∈ ms, x ∈ pl) (hne : ms ≠ []) :
    evF T (d + 2) 59 [.s (.dk (byD pl rows)), .s (.lst (ms.map D.int))] = .ok (.s (tell3D (tellPP pl rows ms))) := by
  obtain ⟨ex, hE⟩ : ∃ ex, tellPP pl rows ms = ex := ⟨_, rfl⟩
  rw [hE]
  have h0 : 0 < ms.length := List.length_pos_iff.mpr hne
  refine ret_is (call_ok (F := F59) rfl rfl ?_)
  show WSs _ (MSs.cons _ _) [some (.s (.dk (byD pl rows))), some (.s (.lst (ms.map D.int))), none, none] _
  walk_at "gs"
  with_reducible refine ws_for (wi_keys ?_)
  walk_at "gs"
  refine ⟨_, rfl, fun j e => (∃ y2 y3 : Option OD, e = [some (.s (.dk (byD pl rows))), some (.s (.lst (ms.map D.int))), y2, y3]) ∧ (pl.drop j).findSome? (tellPF pl rows ms) = ex, ⟨⟨none, none, rfl⟩, hE⟩, ?_, ?_⟩
  · rintro j x e hj ⟨⟨y2, y3, rfl⟩, hx⟩
    rw [by_keys] at hj
    obtain ⟨p, hp, rfl⟩ := map_get hj
    have mp : p ∈ pl := List.mem_of_getElem? hp
    rw [fs_step _ hp] at hx
    refine ⟨_, rfl, ?_⟩
    walk_at "st"
    walk_at "go"
    refine r2_ninI ?_
    walk_at "go"
    · rename_i hpm
      unfold tellPF at hx
      rw [if_neg hpm] at hx
      refine r2_idxK rfl (by_get nd mp) ?_
      walk_at "go"
      refine ⟨_, told58_at d pl rows nd ms hm hne mp hpm, ?_⟩
      cases ha : appP pl rows ms p with
      | none =>
        rw [ha] at hx
        walk_at "go"
        refine r1_notNone ?_
        refine t_false ?_
        walk_at "go"
        exact ⟨⟨_, _, rfl⟩, hx⟩
      | some q =>
        rw [ha] at hx
        walk_at "go"
        refine r1_notNone ?_
        refine t_true ?_
        walk_at "go"
        refine r2_idxL (ints_at h0) ?_
        walk_at "go"
        subst hx
        rfl
    · rename_i hpm
      have hpm : p ∈ ms := Decidable.not_not.mp hpm
      unfold tellPF at hx
      rw [if_pos hpm] at hx
      exact ⟨⟨_, _, rfl⟩, hx⟩
  · rintro e ⟨⟨y2, y3, rfl⟩, hx⟩
    rw [by_keys, List.length_map, List.drop_length] at hx
    subst hx
    walk_at "gs"
    rfl
theorem td_by {pl : List Int} {rows : List (List Int)} {R : D → Prop} (q : R (.dk (byD pl rows))) : TD (byO pl rows) R := by
  show R (byO pl rows).toD
  rw [byO_toD]
  exact q
theorem inP_sub {pl ms : List Int} : ∀ x ∈ inP pl ms, x ∈ pl := fun x hx => (List.mem_filter.mp hx).1
theorem inP_ne {pl ms : List Int} (h : ∀ x ∈ ms, x ∈ pl) (hne : ms ≠ []) : inP pl ms ≠ [] := by
  obtain ⟨x, r, rfl⟩ := List.exists_cons_of_ne_nil hne
  intro z
  have : x ∈ inP pl (x :: r) := List.mem_filter.mpr ⟨h x List.mem_cons_self, by simp⟩
  rw [z] at this
  cases this
theorem depth_ints : ∀ a : List Int, PyData.depthAll (a.map PyData.int) = 0
  | [] => rfl
  | x :: a => by simp [PyData.depthAll, PyData.depth, depth_ints a]
theorem lay_ints : ∀ l : List Int, PyData.canLayAll0 (l.map PyData.int) = true
  | [] => rfl
  | x :: l => by simp [PyData.canLayAll0, PyData.canLay0, lay_ints l]
theorem eqv_ints : ∀ l : List Int, PyData.eqvAll (l.map PyData.int) (l.map PyData.int) = true
  | [] => by simp [PyData.eqvAll]
  | x :: l => by simp [PyData.eqvAll, PyData.eqv, eqv_ints l]
theorem eqD_ints (l : List Int) : eqD (.lst (l.map .int)) (.lst (l.map .int)) = some true := by
  have h : SeqAt.shaped (.list (l.map PyData.int)) = true := by
    simp [SeqAt.shaped, PyData.canLay0, lay_ints, PyData.depth, depth_ints]
  show eqP _ _ = some true
  unfold eqP
  simp only [toPy, toPys_ints, Option.map_some, h, Bool.and_self, if_true]
  rw [PyData.eqv, eqv_ints]
theorem r2_neInts {l : List Int} {Q : OD → Prop} (q : Q (.s (.bl false))) : R2 .ne (.lst (l.map .int)) (.lst (l.map .int)) Q := ⟨_, by simp only [p2Sem, eqD_ints, Option.map_some, Bool.not_true], q⟩
/-! ### pulls, parts (gathered by mkN2.py) -/
/-- lists of positions -/
def natsD (l : List Nat) : List D := l.map fun (k : Nat) => D.int (k : Int)
theorem natsD_ints (l : List Nat) : natsD l = (l.map fun (k : Nat) => (k : Int)).map D.int := by simp [natsD]
theorem flt_len {α : Type} (t : α → Bool) : ∀ l : List α, (l.filter t).length + (l.filter fun x => !t x).length = l.length
  | [] => rfl
  | x :: l => by
    have := flt_len t l
    cases h : t x <;> simp [h] <;> omega
theorem getD_mem {α : Type} {l : List α} {i : Nat} {z : α} (h : i < l.length) : l.getD i z ∈ l := by
  rw [List.getD_eq_getElem?_getD, List.getElem?_eq_getElem h]
  exact List.getElem_mem h
def growL {α : Type} (t : α → α → α → Bool) (z : α) : Nat → List α → List α → Nat → List α
  | 0, got, _, _ => got
  | m + 1, got, out, at_ => if at_ < got.length then
      growL t z m (got ++ out.filter fun x => t x (got.getD at_ z) (got.getD 0 z)) (out.filter fun x => !t x (got.getD at_ z) (got.getD 0 z)) (at_ + 1)
    else got
theorem growL_end {α : Type} {t : α → α → α → Bool} {z : α} {m : Nat} {got out : List α} {at_ : Nat} (h : ¬ at_ < got.length) : growL t z m got out at_ = got := by
  cases m with
  | zero => rfl
  | succ m => unfold growL; rw [if_neg h]
theorem getD_appL {α : Type} {a b : List α} {i : Nat} {z : α} (h : i < a.length) : (a ++ b).getD i z = a.getD i z := by
  rw [List.getD_eq_getElem?_getD, List.getElem?_append_left h, ← List.getD_eq_getElem?_getD]
def outP (pl ms : List Int) : List Int := pl.filter fun p => decide (p ∉ ms)
def tellP (pl : List Int) (rows : List (List Int)) (x a b : Int) : Bool := decide (colP pl rows x a ≠ colP pl rows x b)
def pullL (t : Int → Int → Int → Bool) : Nat → List Int → List Int → Nat → List (Int × Int × Int) → List (Int × Int × Int)
  | 0, _, _, _, ps => ps
  | m + 1, got, out, at_, ps => if at_ < got.length then
      pullL t m (got ++ out.filter fun x => t x (got.getD at_ 0) (got.getD 0 0)) (out.filter fun x => !t x (got.getD at_ 0) (got.getD 0 0)) (at_ + 1) (ps ++ (out.filter fun x => t x (got.getD at_ 0) (got.getD 0 0)).map fun x => (x, got.getD 0 0, got.getD at_ 0))
    else ps
theorem pullL_end {t : Int → Int → Int → Bool} {m : Nat} {got out : List Int} {at_ : Nat} {ps : List (Int × Int × Int)} (h : ¬ at_ < got.length) : pullL t m got out at_ ps = ps := by
  cases m with
  | zero => rfl
  | succ m => unfold pullL; rw [if_neg h]
def groupP (pl : List Int) (rows : List (List Int)) (ms : List Int) : List Int := growL (tellP pl rows) 0 (ms.length + pl.length + 1) ms (outP pl ms) 1
def pullsP (pl : List Int) (rows : List (List Int)) (ms : List Int) : List (Int × Int × Int) := pullL (tellP pl rows) (ms.length + pl.length + 1) ms (outP pl ms) 1 []
def tripD (p : Int × Int × Int) : D := .tup [.int p.1, .int p.2.1, .int p.2.2]
def pulledD (pl : List Int) (rows : List (List Int)) (ms : List Int) : D := .tup [.lst (((groupP pl rows ms).mergeSort (leK id)).map D.int), .lst ((pullsP pl rows ms).map tripD)]
structure PullSt (pl : List Int) (got out : List Int) : Prop where
  ne : got ≠ []
  g : ∀ x ∈ got, x ∈ pl
  o : ∀ x ∈ out, x ∈ pl ∧ x ∉ got
theorem PullSt.next {pl got out : List Int} (S : PullSt pl got out) (t : Int → Bool) : PullSt pl (got ++ out.filter t) (out.filter fun x => !t x) := by
  refine ⟨fun z => S.ne (List.append_eq_nil_iff.mp z).1, fun x hx => ?_, fun x hx => ?_⟩
  · rcases List.mem_append.mp hx with h | h
    · exact S.g x h
    · exact (S.o x (List.mem_filter.mp h).1).1
  · obtain ⟨h1, h2⟩ := List.mem_filter.mp hx
    refine ⟨(S.o x h1).1, fun z => ?_⟩
    rcases List.mem_append.mp z with z | z
    · exact (S.o x h1).2 z
    · rw [(List.mem_filter.mp z).2] at h2
      cases h2
theorem outP_mem {pl ms : List Int} {x : Int} (h : x ∈ outP pl ms) : x ∈ pl ∧ x ∉ ms := by
  obtain ⟨h1, h2⟩ := List.mem_filter.mp h
  exact ⟨h1, of_decide_eq_true h2⟩
theorem outP_len (pl ms : List Int) : (outP pl ms).length ≤ pl.length := List.length_filter_le _ _
theorem outP_fm (ms : List Int) : ∀ pl : List Int, ((pl.map fun p => if p ∈ ms then none else some (D.int p)).filterMap id) = (outP pl ms).map D.int
  | [] => rfl
  | k :: l => by
    have ih := outP_fm ms l
    unfold outP at ih ⊢
    by_cases h : k ∈ ms
    · simp only [List.map_cons, if_pos h, List.filterMap_cons, id]
      rw [List.filter_cons_of_neg (by simp [h])]
      exact ih
    · simp only [List.map_cons, if_neg h, List.filterMap_cons, id]
      rw [List.filter_cons_of_pos (by simp [h]), List.map_cons]
      exact congrArg _ ih
theorem take_fltI {out : List Int} {j : Nat} {x : Int} (t : Int → Bool) (h : out[j]? = some x) : (out.take (j + 1)).filter t = (out.take j).filter t ++ if t x then [x] else [] := by
  rw [List.take_add_one, h, List.filter_append]
  cases hx : t x <;> simp [hx]
theorem take_fltI_len {out : List Int} (t : Int → Bool) (j : Nat) : ((out.take j).filter t).length ≤ out.length :=
  Nat.le_trans (List.length_filter_le _ _) (by rw [List.length_take]; omega)
set_option maxHeartbeats 1000000 in
theorem pulled_by_at (d : Nat) (pl : List Int) (rows : List (List Int)) (nd : pl.Nodup) (ms : List Int) (hne : ms ≠ []) (hms : ∀ x ∈ ms, x ∈ pl) (hn : pl.length ≤ 400) (hl : ms.length ≤ 400) :
    evF T (d + 1) 60 [.s (.dk (byD pl rows)), .s (.lst (ms.map D.int))] = .ok (.s (pulledD pl rows ms)) := by
  unfold pulledD groupP pullsP
  generalize hR : growL (tellP pl rows) 0 (ms.length + pl.length + 1) ms (outP pl ms) 1 = res
  generalize hP : pullL (tellP pl rows) (ms.length + pl.length + 1) ms (outP pl ms) 1 [] = pls
  have h0m : 0 < ms.length := List.length_pos_iff.mpr hne
  refine ret_is (call_ok (F := F60) rfl rfl ?_)
  show WSs _ (MSs.cons _ _) [some (.s (.dk (byD pl rows))), some (.s (.lst (ms.map D.int))), none, none, none, none, none, none, none] _
  walk_at "go"
  refine r2_idxL (ints_at h0m) ?_
  walk_at "ms"
  walk_at "go"
  refine ⟨_, rfl, ?_⟩
  walk_at "ms"
  walk_at "go"
  with_reducible refine w_comp (wi_keys ?_)
  walk_at "go"
  refine ⟨_, rfl, rfl, ?_, pl.map fun p => if p ∈ ms then none else some (D.int p), ?_, ?_, ?_⟩
  · rw [by_keys, List.length_map]; exact le_size (by omega)
  · rw [by_keys, List.length_map, List.length_map]
  · intro j x o hx ho
    rw [by_keys] at hx
    obtain ⟨p, hp, rfl⟩ := map_get hx
    rw [List.getElem?_map, hp] at ho
    have eo : (if p ∈ ms then none else some (D.int p)) = o := Option.some.inj ho
    refine ⟨_, rfl, wt_some ?_⟩
    walk_at "go"
    refine r2_ninI ?_
    refine t_some ?_
    by_cases hm : p ∈ ms
    · rw [if_pos hm] at eo
      subst eo
      rw [if_neg (by simp [hm])]
      exact ⟨rfl, rfl, rfl⟩
    · rw [if_neg hm] at eo
      subst eo
      rw [if_pos (by simp [hm])]
      walk_at "go"
      exact ⟨rfl, rfl, rfl⟩
  · rw [outP_fm]
    walk_at "ms"
    walk_at "go"
    with_reducible refine ws_whl (fun m e => ∃ (got out : List Int) (ps : List (Int × Int × Int)) (at_ : Nat) (o4 : OD) (y7 y8 : Option OD), e = [some (.s (.dk (byD pl rows))), some (.s (.lst (ms.map D.int))), some (.s (.int (ms.getD 0 0))), some (.ol ((got.map D.int).map .s)), some o4, some (.ol ((ps.map tripD).map .s)), some (.s (.int (at_ : Int))), y7, y8] ∧ (o4 = .ol ((out.map D.int).map .s) ∨ o4 = .s (.lst (out.map D.int))) ∧ PullSt pl got out ∧ 1 ≤ at_ ∧ got.getD 0 0 = ms.getD 0 0 ∧ got.length + out.length < at_ + m ∧ got.length + out.length ≤ 800 ∧ ps.length ≤ got.length ∧ growL (tellP pl rows) 0 m got out at_ = res ∧ pullL (tellP pl rows) m got out at_ ps = pls) (ms.length + pl.length + 1) (by omega) ⟨ms, outP pl ms, [], 1, _, none, none, rfl, .inl rfl, ⟨hne, hms, fun x hx => outP_mem hx⟩, by omega, rfl, by have := outP_len pl ms; omega, by have := outP_len pl ms; omega, Nat.zero_le _, hR, hP⟩ ?_
    rintro m e ⟨got, out, ps, at_, o4, y7, y8, rfl, ho4, S, h1, hg0, hm, hb, hps, hr, hp⟩
    walk_at "go"
    · rename_i hlt
      rw [List.length_map] at hlt
      have hlt' : at_ < got.length := by omega
      have h0 : 0 < got.length := by omega
      obtain ⟨m', rfl⟩ : ∃ m', m = m' + 1 := ⟨m - 1, by omega⟩
      unfold growL at hr
      unfold pullL at hp
      rw [if_pos hlt'] at hr hp
      generalize ht : (fun x => tellP pl rows x (got.getD at_ 0) (got.getD 0 0)) = t at hr hp
      have ht2 : ∀ x, t x = decide (colP pl rows x (got.getD at_ 0) ≠ colP pl rows x (got.getD 0 0)) := fun x => by rw [← ht]; rfl
      have ht3 : (fun x => !tellP pl rows x (got.getD at_ 0) (got.getD 0 0)) = fun x => !t x := by rw [← ht]
      rw [ht3] at hr hp
      have S2 := S.next t
      have fl := flt_len t out
      have body : ∀ K : SOut → Prop, (∀ (y8 : Option OD), K (.nx [some (.s (.dk (byD pl rows))), some (.s (.lst (ms.map D.int))), some (.s (.int (ms.getD 0 0))), some (.ol (((got ++ out.filter t).map D.int).map .s)), some (.s (.lst (out.map D.int))), some (.ol (((ps ++ (out.filter t).map fun x => (x, got.getD 0 0, got.getD at_ 0)).map tripD).map .s)), some (.s (.int (at_ : Int))), some (.ol (((out.filter fun x => !t x).map D.int).map .s)), y8])) →
          ∃ I : Nat → MW.Env → Prop, I 0 [some (.s (.dk (byD pl rows))), some (.s (.lst (ms.map D.int))), some (.s (.int (ms.getD 0 0))), some (.ol ((got.map D.int).map .s)), some (.s (.lst (out.map D.int))), some (.ol ((ps.map tripD).map .s)), some (.s (.int (at_ : Int))), some (.ol (([] : List D).map .s)), y8] ∧
          (∀ (j : Nat) (x : D) (e : MW.Env), (out.map D.int)[j]? = some x → I j e → ∃ e1, setT [8] true x e = some e1 ∧ WSs (evF T d) (.cons (.ifs (.p2 .ne (.p2 .idx (.p2 .idx (.var 0) (.var 8)) (.var 2)) (.p2 .idx (.p2 .idx (.var 0) (.var 8)) (.p2 .idx (.bv 3) (.var 6)))) (.cons (.app false 5 (.tup (.cons false (.var 8) (.cons false (.var 2) (.cons false (.p2 .idx (.bv 3) (.var 6)) .nil))))) (.cons (.app false 3 (.var 8)) .nil)) (.cons (.app false 7 (.var 8)) .nil)) .nil) e1 (turnK (I (j + 1)) K)) ∧
          ∀ e, I (out.map D.int).length e → K (.nx e) := fun K hK => by
        refine ⟨fun j e => ∃ (y8 : Option OD), e = [some (.s (.dk (byD pl rows))), some (.s (.lst (ms.map D.int))), some (.s (.int (ms.getD 0 0))), some (.ol (((got ++ (out.take j).filter t).map D.int).map .s)), some (.s (.lst (out.map D.int))), some (.ol (((ps ++ ((out.take j).filter t).map fun x => (x, got.getD 0 0, got.getD at_ 0)).map tripD).map .s)), some (.s (.int (at_ : Int))), some (.ol ((((out.take j).filter fun x => !t x).map D.int).map .s)), y8],
          ⟨y8, by simp⟩, ?_, ?_⟩
        · rintro j x e hx ⟨z8, rfl⟩
          obtain ⟨v, hv, rfl⟩ := map_get hx
          have ov := S.o v (List.mem_of_getElem? hv)
          have tl1 := take_fltI_len (out := out) t j
          have tl2 := take_fltI_len (out := out) (fun x => !t x) j
          refine ⟨_, rfl, ?_⟩
          walk_at "st"
          have ga : (got ++ (out.take j).filter t).getD at_ 0 = got.getD at_ 0 := getD_appL hlt'
          have ma : got.getD at_ 0 ∈ got := getD_mem hlt'
          have m0 : got.getD 0 0 ∈ got := getD_mem h0
          have ep := ints_at (l := got ++ (out.take j).filter t) (j := at_) (by rw [List.length_append]; omega)
          rw [ga] at ep
          have c1 := inn_get nd (rows := rows) ov.1 (S.g _ m0) (fun z => ov.2 (z ▸ m0))
          have c2 := inn_get nd (rows := rows) ov.1 (S.g _ ma) (fun z => ov.2 (z ▸ ma))
          rw [hg0] at c1
          have bg := by_get nd (rows := rows) ov.1
          walk_at "go"
          refine r2_idxK rfl bg ?_
          walk_at "go"
          refine r2_idxK rfl c1 ?_
          walk_at "go"
          refine r2_idxK rfl bg ?_
          walk_at "go"
          refine r2_idxL ep ?_
          walk_at "go"
          refine r2_idxK rfl c2 ?_
          walk_at "go"
          · rename_i hneq
            have tv : t v = true := by rw [ht2, hg0]; exact decide_eq_true (Ne.symm hneq)
            refine r2_idxL ep ?_
            walk_at "go"
            refine ⟨_, rfl, by simp only [List.length_map, List.length_append]; exact lt_size (by omega), ?_⟩
            walk_at "st"
            walk_at "go"
            refine ⟨_, rfl, by simp only [List.length_map, List.length_append]; exact lt_size (by omega), ?_⟩
            walk_at "st"
            walk_at "go"
            refine ⟨some (.s (.int v)), ?_⟩
            rw [take_fltI t hv, take_fltI (fun x => !t x) hv, tv, ← hg0]
            simp [tripD]
          · rename_i hneq
            have tv : t v = false := by rw [ht2, hg0]; exact decide_eq_false fun z => hneq (Ne.symm z)
            walk_at "go"
            refine ⟨_, rfl, by simp only [List.length_map]; exact lt_size (by omega), ?_⟩
            walk_at "st"
            walk_at "go"
            refine ⟨some (.s (.int v)), ?_⟩
            rw [take_fltI t hv, take_fltI (fun x => !t x) hv, tv]
            simp
        · rintro e ⟨z8, rfl⟩
          rw [List.length_map, List.take_length]
          exact hK z8
      have rest : ∀ (y8 : Option OD) (K : SOut → Prop), WSs (evF T d) (.cons (.asg 4 (.var 7)) (.cons (.asg 6 (.p2 .add (.var 6) (.cint 1))) .nil)) [some (.s (.dk (byD pl rows))), some (.s (.lst (ms.map D.int))), some (.s (.int (ms.getD 0 0))), some (.ol (((got ++ out.filter t).map D.int).map .s)), some (.s (.lst (out.map D.int))), some (.ol (((ps ++ (out.filter t).map fun x => (x, got.getD 0 0, got.getD at_ 0)).map tripD).map .s)), some (.s (.int (at_ : Int))), some (.ol (((out.filter fun x => !t x).map D.int).map .s)), y8]
          (turnK (fun e2 => ∃ m'', m'' < m' + 1 ∧ ∃ (got out : List Int) (ps : List (Int × Int × Int)) (at_ : Nat) (o4 : OD) (y7 y8 : Option OD), e2 = [some (.s (.dk (byD pl rows))), some (.s (.lst (ms.map D.int))), some (.s (.int (ms.getD 0 0))), some (.ol ((got.map D.int).map .s)), some o4, some (.ol ((ps.map tripD).map .s)), some (.s (.int (at_ : Int))), y7, y8] ∧ (o4 = .ol ((out.map D.int).map .s) ∨ o4 = .s (.lst (out.map D.int))) ∧ PullSt pl got out ∧ 1 ≤ at_ ∧ got.getD 0 0 = ms.getD 0 0 ∧ got.length + out.length < at_ + m'' ∧ got.length + out.length ≤ 800 ∧ ps.length ≤ got.length ∧ growL (tellP pl rows) 0 m'' got out at_ = res ∧ pullL (tellP pl rows) m'' got out at_ ps = pls) K) := fun y8 K => by
        walk_at "go"
        refine ⟨m', by omega, got ++ out.filter t, out.filter fun x => !t x, _, at_ + 1, _, _, _, rfl, .inr rfl, S2, by omega, (getD_appL h0).trans hg0, ?_, ?_, ?_, hr, hp⟩
        · rw [List.length_append]; omega
        · rw [List.length_append]; omega
        · rw [List.length_append, List.length_append, List.length_map]; omega
      rcases ho4 with rfl | rfl
      · walk_at "go"
        with_reducible refine ws_for (wi_seq ?_)
        walk_at "go"
        refine ⟨_, rfl, ?_⟩
        walk_at "st"
        exact body _ fun y8 => tk_nx (rest y8 _)
      · walk_at "go"
        with_reducible refine ws_for (wi_seq ?_)
        walk_at "go"
        refine ⟨_, rfl, ?_⟩
        exact body _ fun y8 => tk_nx (rest y8 _)
    · rename_i hlt
      rw [List.length_map] at hlt
      have hlt' : ¬ at_ < got.length := by omega
      rw [growL_end hlt'] at hr
      rw [pullL_end hlt'] at hp
      subst hr
      subst hp
      walk_at "go"
      refine r1_sortedI (le_size (by omega)) ?_
      walk_at "go"
      rfl
def appN (rows : List (List Int)) (ins : List Nat) (k : Nat) : Option Nat := (ins.drop 1).find? fun j => decide (col rows k j ≠ col rows k (ins.getD 0 0))
def tellF (rows : List (List Int)) (ins : List Nat) (k : Nat) : Option (Nat × Nat × Nat) := if k ∈ ins then none else (appN rows ins k).map fun j => (k, ins.getD 0 0, j)
def tellN (rows : List (List Int)) (n : Nat) (ins : List Nat) : Option (Nat × Nat × Nat) := (List.range n).findSome? (tellF rows ins)
theorem getD_memN {l : List Nat} {j : Nat} (h : j < l.length) : l.getD j 0 ∈ l := by
  rw [List.getD_eq_getElem?_getD, List.getElem?_eq_getElem h]
  exact List.getElem_mem h
theorem lt_ext : ∀ {a b : List Nat}, a.Pairwise (· < ·) → b.Pairwise (· < ·) → (∀ x, x ∈ a ↔ x ∈ b) → a = b
  | [], [], _, _, _ => rfl
  | [], y :: b, _, _, h => absurd ((h y).mpr List.mem_cons_self) (by simp)
  | x :: a, [], _, _, h => absurd ((h x).mp List.mem_cons_self) (by simp)
  | x :: a, y :: b, ha, hb, h => by
    rw [List.pairwise_cons] at ha hb
    have e : x = y := by
      rcases List.mem_cons.mp ((h x).mp List.mem_cons_self) with e | m
      · exact e
      · rcases List.mem_cons.mp ((h y).mpr List.mem_cons_self) with e | m2
        · exact e.symm
        · have := hb.1 x m; have := ha.1 y m2; omega
    subst e
    rw [lt_ext ha.2 hb.2 fun z => ?_]
    constructor
    · intro hz
      rcases List.mem_cons.mp ((h z).mp (List.mem_cons_of_mem _ hz)) with e | m
      · subst e; exact absurd (ha.1 z hz) (Nat.lt_irrefl _)
      · exact m
    · intro hz
      rcases List.mem_cons.mp ((h z).mpr (List.mem_cons_of_mem _ hz)) with e | m
      · subst e; exact absurd (hb.1 z hz) (Nat.lt_irrefl _)
      · exact m
theorem range_lt (n : Nat) : (List.range n).Pairwise (· < ·) := List.pairwise_lt_range
def img (pl : List Int) (ins : List Nat) : List Int := ins.map fun k => pl.getD k 0
theorem pl_range (pl : List Int) : pl = img pl (List.range pl.length) := by
  unfold img
  apply List.ext_getElem?
  intro i
  rw [List.getElem?_map]
  by_cases h : i < pl.length
  · rw [List.getElem?_range h, List.getElem?_eq_getElem h]
    simp [List.getD_eq_getElem?_getD, h]
  · rw [List.getElem?_eq_none (by omega), List.getElem?_eq_none (by simpa using h)]
    rfl
theorem getD_injI {pl : List Int} (nd : pl.Nodup) {a b : Nat} (ha : a < pl.length) (hb : b < pl.length) (h : pl.getD a 0 = pl.getD b 0) : a = b := pl_inj nd ha hb (by rw [h])
theorem img_mem {pl : List Int} (nd : pl.Nodup) {ins : List Nat} (hi : ∀ x ∈ ins, x < pl.length) {k : Nat} (hk : k < pl.length) : pl.getD k 0 ∈ img pl ins ↔ k ∈ ins := by
  unfold img
  rw [List.mem_map]
  exact ⟨fun ⟨a, ha, e⟩ => getD_injI nd (hi a ha) hk e ▸ ha, fun h => ⟨k, h, rfl⟩⟩
theorem img_sub {pl : List Int} {ins : List Nat} (hi : ∀ x ∈ ins, x < pl.length) : ∀ p ∈ img pl ins, p ∈ pl := fun p hp => by
  obtain ⟨a, ha, rfl⟩ := List.mem_map.mp hp
  exact getD_memI (hi a ha)
theorem idx_getD {pl : List Int} (nd : pl.Nodup) {k : Nat} (hk : k < pl.length) : pl.idxOf (pl.getD k 0) = k := getD_injI nd (idx_lt (getD_memI hk)) hk (idx_get (getD_memI hk))
theorem colP_img {pl : List Int} (nd : pl.Nodup) (rows : List (List Int)) {a b : Nat} (ha : a < pl.length) (hb : b < pl.length) : colP pl rows (pl.getD a 0) (pl.getD b 0) = col rows a b := by
  unfold colP
  rw [idx_getD nd ha, idx_getD nd hb]
theorem fd_map {α β : Type} {f : α → β} {p : β → Bool} {q : α → Bool} : ∀ {l : List α}, (∀ x ∈ l, p (f x) = q x) → (l.map f).find? p = (l.find? q).map f
  | [], _ => rfl
  | x :: l, h => by
    rw [List.map_cons, List.find?_cons, List.find?_cons, h x List.mem_cons_self]
    cases q x
    · exact fd_map fun y hy => h y (List.mem_cons_of_mem _ hy)
    · rfl
theorem fs_map {α β γ δ : Type} {f : α → β} {p : β → Option δ} {q : α → Option γ} {g : γ → δ} : ∀ {l : List α}, (∀ x ∈ l, p (f x) = (q x).map g) → (l.map f).findSome? p = (l.findSome? q).map g
  | [], _ => rfl
  | x :: l, h => by
    rw [List.map_cons, List.findSome?_cons, List.findSome?_cons, h x List.mem_cons_self]
    cases q x
    · exact fs_map fun y hy => h y (List.mem_cons_of_mem _ hy)
    · rfl
def img3 (pl : List Int) (t : Nat × Nat × Nat) : Int × Int × Int := (pl.getD t.1 0, pl.getD t.2.1 0, pl.getD t.2.2 0)
theorem img_getD (pl : List Int) {ins : List Nat} (h : ins ≠ []) : (img pl ins).getD 0 0 = pl.getD (ins.getD 0 0) 0 := by
  cases ins with
  | nil => exact absurd rfl h
  | cons a l => rfl
theorem tell_img {pl : List Int} (nd : pl.Nodup) (rows : List (List Int)) {ins : List Nat} (hi : ∀ x ∈ ins, x < pl.length) (hne : ins ≠ []) : tellPP pl rows (img pl ins) = (tellN rows pl.length ins).map (img3 pl) := by
  unfold tellPP tellN
  have h0 : 0 < ins.length := List.length_pos_iff.mpr hne
  have l0 := hi _ (getD_memN h0)
  have key : (img pl (List.range pl.length)).findSome? (tellPF pl rows (img pl ins)) = ((List.range pl.length).findSome? (tellF rows ins)).map (img3 pl) := by
    refine fs_map fun k hk => ?_
    have hk := List.mem_range.mp hk
    unfold tellPF tellF
    by_cases hm : k ∈ ins
    · rw [if_pos hm, if_pos ((img_mem nd hi hk).mpr hm)]; rfl
    · rw [if_neg hm, if_neg fun z => hm ((img_mem nd hi hk).mp z)]
      have ha : appP pl rows (img pl ins) (pl.getD k 0) = (appN rows ins k).map fun j => pl.getD j 0 := by
        unfold appP appN
        rw [img_getD pl hne, show (img pl ins).drop 1 = (ins.drop 1).map fun j => pl.getD j 0 by unfold img; rw [List.map_drop]]
        refine fd_map fun j hj => ?_
        rw [colP_img nd rows hk (hi j (List.mem_of_mem_drop hj)), colP_img nd rows hk l0]
      rw [ha, img_getD pl hne]
      cases appN rows ins k <;> rfl
  rw [← key, ← pl_range]
theorem inP_img {pl : List Int} (nd : pl.Nodup) {ins : List Nat} (hl : ins.Pairwise (· < ·)) (hi : ∀ x ∈ ins, x < pl.length) {some_ : List Int} (h : ∀ p ∈ pl, p ∈ some_ ↔ p ∈ img pl ins) : inP pl some_ = img pl ins := by
  have e1 : inP pl some_ = (img pl (List.range pl.length)).filter fun p => decide (p ∈ img pl ins) := by
    unfold inP
    rw [← pl_range]
    exact List.filter_congr fun p hp => by rw [decide_eq_decide]; exact h p hp
  have e2 : (List.range pl.length).filter ((fun p => decide (p ∈ img pl ins)) ∘ fun k => pl.getD k 0) = ins := by
    refine lt_ext ((range_lt _).filter _) hl fun x => ?_
    rw [List.mem_filter, List.mem_range, Function.comp, decide_eq_true_eq]
    exact ⟨fun ⟨a, b⟩ => (img_mem nd hi a).mp b, fun hx => ⟨hi x hx, (img_mem nd hi (hi x hx)).mpr hx⟩⟩
  rw [e1]
  unfold img at e2 ⊢
  rw [List.filter_map, e2]
def splitG (c : Int → Int) : List Int → List (Int × List Int) → List (Int × List Int)
  | [], g => g
  | m :: r, g => splitG c r (putD g (c m) (((valO g (c m)).getD []) ++ [m]))
def splitP (pl : List Int) (rows : List (List Int)) (p : Int) (part : List Int) : List (List Int) := (splitG (colP pl rows p) part []).map (·.2)
theorem valO_nd {α β : Type} [DecidableEq α] : ∀ {g : List (α × β)} {k : α} {v : β}, (g.map (·.1)).Nodup → (k, v) ∈ g → valO g k = some v
  | (k', v') :: g, k, v, nd, h => by
    unfold valO
    rw [List.find?_cons]
    rw [List.map_cons, List.nodup_cons] at nd
    by_cases e : k' = k
    · subst e
      simp only [decide_true]
      rcases List.mem_cons.mp h with z | z
      · cases z; rfl
      · exact absurd (List.mem_map.mpr ⟨_, z, rfl⟩) nd.1
    · simp only [e, decide_false]
      rcases List.mem_cons.mp h with z | z
      · cases z; exact absurd rfl e
      · exact valO_nd nd.2 z
theorem putD_keys {α β : Type} [DecidableEq α] (g : List (α × β)) (k : α) (v : β) : (putD g k v).map (·.1) = if k ∈ g.map (·.1) then g.map (·.1) else g.map (·.1) ++ [k] := by
  unfold putD
  have hc : (g.any fun p => decide (p.1 = k)) = true ↔ k ∈ g.map (·.1) := by
    rw [List.any_eq_true, List.mem_map]
    exact ⟨fun ⟨p, hp, e⟩ => ⟨p, hp, of_decide_eq_true e⟩, fun ⟨p, hp, e⟩ => ⟨p, hp, decide_eq_true e⟩⟩
  by_cases h : k ∈ g.map (·.1)
  · rw [if_pos (hc.mpr h), if_pos h, List.map_map]
    refine List.map_congr_left fun p _ => ?_
    dsimp only [Function.comp]
    split <;> rfl
  · rw [if_neg (fun z => h (hc.mp z)), if_neg h, List.map_append]
    rfl
def sizes (g : List (Int × List Int)) : Nat := (g.map fun p => p.2.length).sum
structure SplitOk (c : Int → Int) (seen : List Int) (g : List (Int × List Int)) : Prop where
  nd : (g.map (·.1)).Nodup
  ne : ∀ p ∈ g, p.2 ≠ []
  sz : sizes g = seen.length
  ks : ∀ k, k ∈ g.map (·.1) ↔ ∃ m ∈ seen, c m = k
  col : ∀ p ∈ g, ∀ m, m ∈ p.2 ↔ m ∈ seen ∧ c m = p.1
theorem sum_set : ∀ {g : List (Int × List Int)} {k m : Int} {v : List Int}, (g.map (·.1)).Nodup → (k, v) ∈ g → sizes (g.map fun p => if p.1 = k then (p.1, v ++ [m]) else p) = sizes g + 1
  | (k', v') :: g, k, m, v, nd, h => by
    rw [List.map_cons, List.nodup_cons] at nd
    unfold sizes at *
    simp only [List.map_cons, List.sum_cons]
    by_cases e : k' = k
    · subst e
      have hv : v' = v := by
        rcases List.mem_cons.mp h with z | z
        · cases z; rfl
        · exact absurd (List.mem_map.mpr ⟨_, z, rfl⟩) nd.1
      subst hv
      have hid : (g.map fun p => if p.1 = k' then (p.1, v' ++ [m]) else p) = g := by
        conv => rhs; rw [← List.map_id g]
        refine List.map_congr_left fun p hp => ?_
        have : p.1 ≠ k' := fun z => nd.1 (List.mem_map.mpr ⟨p, hp, z⟩)
        rw [if_neg this]
        rfl
      rw [if_pos rfl, hid]
      simp only [List.length_append, List.length_singleton]
      omega
    · rw [if_neg e]
      rcases List.mem_cons.mp h with z | z
      · cases z; exact absurd rfl e
      · have := sum_set (m := m) nd.2 z
        unfold sizes at this
        rw [this]
        dsimp only
        omega
theorem split_step {c : Int → Int} {seen : List Int} {g : List (Int × List Int)} (S : SplitOk c seen g) (m : Int) (hm : m ∉ seen) : SplitOk c (seen ++ [m]) (putD g (c m) (((valO g (c m)).getD []) ++ [m])) := by
  have hk := putD_keys g (c m) (((valO g (c m)).getD []) ++ [m])
  by_cases h : c m ∈ g.map (·.1)
  · obtain ⟨⟨k', v⟩, hp, e⟩ := List.mem_map.mp h
    dsimp only at e
    subst e
    have hv := valO_nd S.nd hp
    have ha : (g.any fun p => decide (p.1 = c m)) = true := List.any_eq_true.mpr ⟨_, hp, decide_eq_true rfl⟩
    have e2 : putD g (c m) (((valO g (c m)).getD []) ++ [m]) = g.map fun p => if p.1 = c m then (p.1, v ++ [m]) else p := by
      unfold putD
      rw [if_pos ha, hv]
      rfl
    rw [if_pos h] at hk
    refine ⟨by rw [hk]; exact S.nd, fun p hp2 => ?_, ?_, fun k => ?_, fun p hp2 m2 => ?_⟩
    · rw [e2] at hp2
      obtain ⟨q, hq, rfl⟩ := List.mem_map.mp hp2
      split
      · simp
      · exact S.ne q hq
    · rw [e2, sum_set S.nd hp, S.sz]; simp
    · rw [hk, S.ks]
      constructor
      · rintro ⟨a, ha, e⟩; exact ⟨a, List.mem_append_left _ ha, e⟩
      · rintro ⟨a, ha, e⟩
        rcases List.mem_append.mp ha with ha | ha
        · exact ⟨a, ha, e⟩
        · rw [List.mem_singleton] at ha; subst ha; subst e; exact (S.ks _).mp h
    · rw [e2] at hp2
      obtain ⟨q, hq, rfl⟩ := List.mem_map.mp hp2
      have sq := S.col q hq m2
      have sv := S.col _ hp m2
      dsimp only at sv
      by_cases hqk : q.1 = c m
      · have : q.2 = v := by
          have := valO_nd S.nd (show (q.1, q.2) ∈ g from hq)
          rw [hqk, hv] at this
          exact (Option.some.inj this).symm
        rw [if_pos hqk]
        dsimp only
        rw [List.mem_append, List.mem_append, sv, List.mem_singleton, hqk]
        constructor
        · rintro (⟨a, b⟩ | rfl)
          · exact ⟨.inl a, b⟩
          · exact ⟨.inr rfl, rfl⟩
        · rintro ⟨a | rfl, b⟩
          · exact .inl ⟨a, b⟩
          · exact .inr rfl
      · rw [if_neg hqk, sq, List.mem_append, List.mem_singleton]
        constructor
        · rintro ⟨a, b⟩; exact ⟨.inl a, b⟩
        · rintro ⟨a | rfl, b⟩
          · exact ⟨a, b⟩
          · exact absurd b.symm hqk
  · have ha : ¬ (g.any fun p => decide (p.1 = c m)) = true := fun z => by
      obtain ⟨p, hp, e⟩ := List.any_eq_true.mp z
      exact h (List.mem_map.mpr ⟨p, hp, of_decide_eq_true e⟩)
    have hv : valO g (c m) = none := by
      unfold valO
      rw [List.find?_eq_none.mpr fun p hp z => h (List.mem_map.mpr ⟨p, hp, of_decide_eq_true z⟩)]
      rfl
    have e2 : putD g (c m) (((valO g (c m)).getD []) ++ [m]) = g ++ [(c m, [m])] := by
      unfold putD
      rw [if_neg ha, hv]
      rfl
    rw [if_neg h] at hk
    refine ⟨?_, fun p hp => ?_, ?_, fun k => ?_, fun p hp m2 => ?_⟩
    · rw [hk]
      refine List.nodup_append.mpr ⟨S.nd, by simp, fun a ha b hb e => ?_⟩
      rw [List.mem_singleton] at hb
      subst hb; subst e
      exact h ha
    · rw [e2] at hp
      rcases List.mem_append.mp hp with hp | hp
      · exact S.ne p hp
      · rw [List.mem_singleton] at hp; subst hp; simp
    · rw [e2]
      unfold sizes at *
      rw [List.map_append, List.sum_append]
      have := S.sz
      unfold sizes at this
      simp [this]
    · rw [hk, List.mem_append, S.ks]
      constructor
      · rintro (⟨a, ha, e⟩ | hk)
        · exact ⟨a, List.mem_append_left _ ha, e⟩
        · rw [List.mem_singleton] at hk; exact ⟨m, by simp, hk.symm⟩
      · rintro ⟨a, ha, e⟩
        rcases List.mem_append.mp ha with ha | ha
        · exact .inl ⟨a, ha, e⟩
        · rw [List.mem_singleton] at ha; subst ha; exact .inr (by simp [e])
    · rw [e2] at hp
      rcases List.mem_append.mp hp with hq | hq
      · rw [S.col p hq, List.mem_append, List.mem_singleton]
        constructor
        · rintro ⟨a, b⟩; exact ⟨.inl a, b⟩
        · rintro ⟨a | rfl, b⟩
          · exact ⟨a, b⟩
          · exact absurd (show c m2 ∈ g.map (·.1) from List.mem_map.mpr ⟨p, hq, b.symm⟩) h
      · rw [List.mem_singleton] at hq
        subst hq
        dsimp only
        rw [List.mem_singleton, List.mem_append, List.mem_singleton]
        constructor
        · rintro rfl; exact ⟨.inr rfl, rfl⟩
        · rintro ⟨a | a, b⟩
          · exact absurd ((S.ks _).mpr ⟨m2, a, b⟩) h
          · exact a
theorem splitG_ok {c : Int → Int} : ∀ {part seen : List Int} {g : List (Int × List Int)}, SplitOk c seen g → (seen ++ part).Nodup → SplitOk c (seen ++ part) (splitG c part g)
  | [], seen, g, S, _ => by rw [List.append_nil]; exact S
  | m :: r, seen, g, S, nd => by
    have hm : m ∉ seen := fun z => (List.nodup_append.mp nd).2.2 m z m List.mem_cons_self rfl
    have := splitG_ok (part := r) (split_step S m hm) (by rw [List.append_assoc]; exact nd)
    rw [List.append_assoc] at this
    exact this
theorem splitOk_nil {c : Int → Int} : SplitOk c [] [] := by
  refine ⟨List.nodup_nil, (fun p h => nomatch h), rfl, fun k => ?_, (fun p h => nomatch h)⟩
  constructor
  · intro h; exact nomatch h
  · rintro ⟨a, h, _⟩; exact nomatch h
theorem split_ok {c : Int → Int} {part : List Int} (nd : part.Nodup) : SplitOk c part (splitG c part []) := by
  have := splitG_ok (c := c) (part := part) (seen := []) (g := []) splitOk_nil (by simpa using nd)
  simpa using this
theorem two_rows {c : Int → Int} {part : List Int} (nd : part.Nodup) {a b : Int} (ha : a ∈ part) (hb : b ∈ part) (h : c a ≠ c b) : 2 ≤ (splitG c part []).length := by
  have S := split_ok (c := c) nd
  have k1 := (S.ks (c a)).mpr ⟨a, ha, rfl⟩
  have k2 := (S.ks (c b)).mpr ⟨b, hb, rfl⟩
  have hl : ((splitG c part []).map (·.1)).length = (splitG c part []).length := List.length_map ..
  generalize (splitG c part []).map (·.1) = ks at k1 k2 hl
  rw [← hl]
  match ks, k1, k2 with
  | [x], k1, k2 =>
    rw [List.mem_singleton] at k1 k2
    exact absurd (k1.trans k2.symm) h
  | x :: y :: l, _, _ => simp
def lD (l : List Int) : D := .lst (l.map D.int)
def gD (g : List (Int × List Int)) : List (Key × OD) := g.map fun p => (Sum.inl p.1, .s (lD p.2))
theorem gD_put (g : List (Int × List Int)) (k : Int) (v : List Int) : putD (gD g) (Sum.inl k) (.s (lD v)) = gD (putD g k v) := by
  unfold putD gD
  have e : (List.map (fun p : Int × List Int => ((Sum.inl p.1 : Key), OD.s (lD p.2))) g).any (fun p => decide (p.1 = Sum.inl k)) = g.any fun p => decide (p.1 = k) := by
    rw [List.any_map]
    congr 1
    funext p
    simp [Function.comp]
  rw [e]
  split
  · rw [List.map_map, List.map_map]
    refine List.map_congr_left fun p _ => ?_
    dsimp only [Function.comp]
    by_cases h : p.1 = k
    · rw [if_pos (by rw [h]), if_pos h]
    · rw [if_neg (fun z => h (Sum.inl.inj z)), if_neg h]
  · rw [List.map_append]; rfl
theorem gD_flat (g : List (Int × List Int)) : (OD.odk (gD g)).flatD = some (.dk (g.map fun p => (Sum.inl p.1, lD p.2))) := by
  simp only [OD.flatD]
  have : ∀ g : List (Int × List Int), allSK (gD g) = some (g.map fun p => (Sum.inl p.1, lD p.2)) := by
    intro g
    induction g with
    | nil => rfl
    | cons p g ih =>
      unfold gD at ih ⊢
      simp only [List.map_cons, allSK, ih, Option.map_some]
  rw [this]
  rfl
theorem gD_val (g : List (Int × List Int)) (k : Int) : (valO (g.map fun p => ((Sum.inl p.1 : Key), lD p.2)) (Sum.inl k)).getD (.lst []) = lD ((valO g k).getD []) := by
  unfold valO
  rw [fd_map (f := fun p : Int × List Int => ((Sum.inl p.1 : Key), lD p.2)) (q := fun p => decide (p.1 = k)) fun p _ => by simp]
  cases g.find? fun p => decide (p.1 = k) <;> rfl
theorem gD_len (g : List (Int × List Int)) : (gD g).length = g.length := by unfold gD; rw [List.length_map]
theorem gD_toD (g : List (Int × List Int)) : (OD.odk (gD g)).toD = .dk (g.map fun p => (Sum.inl p.1, lD p.2)) := by
  simp only [OD.toD, toDk_map, gD, List.map_map]
  rfl
theorem keys_le {c : Int → Int} {seen : List Int} {g : List (Int × List Int)} (S : SplitOk c seen g) : g.length ≤ seen.length := by
  rw [← S.sz]
  have : ∀ g : List (Int × List Int), (∀ p ∈ g, p.2 ≠ []) → g.length ≤ sizes g := by
    intro g
    induction g with
    | nil => intro _; exact Nat.zero_le _
    | cons p g ih =>
      intro h
      have h1 := ih fun q hq => h q (List.mem_cons_of_mem _ hq)
      have h2 := List.length_pos_iff.mpr (h p List.mem_cons_self)
      unfold sizes at *
      simp only [List.map_cons, List.sum_cons, List.length_cons]
      omega
  exact this g S.ne
theorem splitG_drop (c : Int → Int) {part : List Int} {j : Nat} {m : Int} (h : part[j]? = some m) (g : List (Int × List Int)) : splitG c (part.drop j) g = splitG c (part.drop (j + 1)) (putD g (c m) (((valO g (c m)).getD []) ++ [m])) := by
  rw [drop_get h]
  rfl
theorem split61_at (d : Nat) (pl : List Int) (rows : List (List Int)) (nd : pl.Nodup) {p : Int} (hp : p ∈ pl) (part : List Int) (hm : ∀ x ∈ part, x ∈ pl) (hpm : p ∉ part) (pnd : part.Nodup) (hl : part.length ≤ 400) :
    evF T (d + 1) 61 [.s (.dk (innD pl rows (pl.idxOf p))), .s (lD part)] = .ok (.ol (((splitP pl rows p part).map lD).map .s)) := by
  unfold splitP
  obtain ⟨res, hR⟩ : ∃ res, splitG (colP pl rows p) part [] = res := ⟨_, rfl⟩
  rw [hR]
  refine ret_is (call_ok (F := F61) rfl rfl ?_)
  show WSs _ (MSs.cons _ _) [some (.s (.dk (innD pl rows (pl.idxOf p)))), some (.s (.lst (part.map D.int))), none, none, none] _
  walk_at "gs"
  refine w_dnew ?_
  walk_at "gs"
  with_reducible refine ws_for (wi_seq ?_)
  walk_at "gs"
  refine ⟨_, rfl, fun j e => ∃ (g : List (Int × List Int)) (y3 : Option OD), e = [some (.s (.dk (innD pl rows (pl.idxOf p)))), some (.s (.lst (part.map D.int))), some (.odk (gD g)), y3, none] ∧ splitG (colP pl rows p) (part.drop j) g = res ∧ SplitOk (colP pl rows p) (part.take j) g,
    ⟨[], none, rfl, hR, splitOk_nil⟩, ?_, ?_⟩
  · rintro j x e hj ⟨g, y3, rfl, hs, S⟩
    obtain ⟨m, hv, rfl⟩ := map_get hj
    have mm := List.mem_of_getElem? hv
    have hg := inn_get nd (rows := rows) hp (hm m mm) (fun z => hpm (z ▸ mm))
    have hjl := (List.getElem?_eq_some_iff.mp hv).1
    have hlk := keys_le S
    rw [List.length_take] at hlk
    rw [splitG_drop _ hv] at hs
    have et : part.take (j + 1) = part.take j ++ [m] := by rw [List.take_add_one, hv]; rfl
    have S2 := split_step S m (by
      have h2 : (part.take (j + 1)).Nodup := pnd.sublist (List.take_sublist _ _)
      rw [et] at h2
      exact fun z => (List.nodup_append.mp h2).2.2 m z m (by simp) rfl)
    rw [← et] at S2
    have hll : ((valO g (colP pl rows p m)).getD []).length + 1 ≤ 1000 := by
      cases hvv : valO g (colP pl rows p m) with
      | none => simp
      | some v =>
        have : ∃ q ∈ g, q.2 = v := by
          unfold valO at hvv
          obtain ⟨q, hq, e⟩ := Option.map_eq_some_iff.mp hvv
          exact ⟨q, List.mem_of_find?_eq_some hq, e⟩
        obtain ⟨q, hq, rfl⟩ := this
        have h3 : q.2.length ≤ sizes g := by
          clear hvv S2 S hs hlk
          induction g with
          | nil => cases hq
          | cons a g ih =>
            unfold sizes at *
            simp only [List.map_cons, List.sum_cons]
            rcases List.mem_cons.mp hq with rfl | hq
            · omega
            · have := ih hq; omega
        rw [S.sz, List.length_take] at h3
        simp only [Option.getD_some]
        omega
    refine ⟨_, rfl, ?_⟩
    walk_at "st"
    walk_at "gs"
    refine ws_setD ?_
    walk_at "gs"
    refine w_get3 ?_
    refine wo_bv rfl ⟨_, gD_flat g, ?_⟩
    walk_at "gs"
    refine r2_idxK rfl hg ?_
    walk_at "gs"
    refine ⟨_, rfl, ?_⟩
    walk_at "gs"
    refine ⟨_, gD_flat g, ?_⟩
    rw [gD_val]
    walk_at "gs"
    unfold lD
    walk_at "gs"
    refine r2_addL (by rw [List.length_map]; exact le_size (Nat.le_trans hll (by decide))) ?_
    walk_at "gs"
    refine ⟨rfl, ?_⟩
    walk_at "gs"
    refine r2_idxK rfl hg ?_
    walk_at "gs"
    refine ⟨_, _, rfl, rfl, by rw [gD_len]; exact lt_size (by omega), ?_⟩
    have ea : D.lst (List.map D.int ((valO g (colP pl rows p m)).getD []) ++ [D.int m]) = lD (((valO g (colP pl rows p m)).getD []) ++ [m]) := by unfold lD; rw [List.map_append]; rfl
    rw [ea, gD_put]
    walk_at "st"
    exact ⟨_, _, rfl, hs, S2⟩
  · rintro e ⟨g, y3, rfl, hs, S⟩
    rw [List.length_map, List.drop_length] at hs
    rw [List.length_map, List.take_length] at S
    have hs : g = res := hs
    subst hs
    have hlk := keys_le S
    walk_at "gs"
    with_reducible refine w_map (α := List Int) (wi_vals ?_)
    refine w_varO rfl ?_
    rw [gD_toD]
    refine td_s ⟨_, rfl, rfl, g.map (·.2), lD, lD, by rw [List.map_map, List.map_map]; rfl, by rw [List.length_map]; exact le_size (by omega), fun j x hx => ⟨_, rfl, ?_⟩, ?_⟩
    · walk_at "gs"
      exact ⟨rfl, rfl, rfl⟩
    · walk_at "gs"
      rfl
def leR (p q : List Int) : Bool := decide (p ≤ q)
theorem toPys_rows : ∀ ls : List (List Int), toPys (ls.map lD) = some (ls.map fun l => .list (l.map .int))
  | [] => rfl
  | l :: ls => by
    simp only [List.map_cons, toPys, toPys_rows ls, lD, toPy, toPys_ints, Option.map_some]
theorem alike_rows : ∀ a b : List Int, PySem.W.alikeAll (a.map PyData.int) (b.map PyData.int) = true
  | [], _ => by simp [PySem.W.alikeAll]
  | _ :: _, [] => by simp [PySem.W.alikeAll]
  | x :: a, y :: b => by simp [PySem.W.alikeAll, PySem.W.alike, alike_rows a b]
theorem sortD_rows (ls : List (List Int)) (hz : ls.length ≤ sizeLine) : sortD (ls.map lD) = some (.ol (((ls.mergeSort leR).map lD).map .s)) := by
  unfold sortD
  rw [toPys_rows]
  dsimp only
  have ok : sortOk (ls.map fun l => PyData.list (l.map .int)) = true := by
    refine sortOk_of (fun a ha b hb => ?_) (.inr fun a ha => ?_) fun a ha => ?_
    · obtain ⟨x, _, rfl⟩ := List.mem_map.mp ha
      obtain ⟨y, _, rfl⟩ := List.mem_map.mp hb
      show PySem.W.alikeAll _ _ = true
      exact alike_rows x y
    · obtain ⟨x, _, rfl⟩ := List.mem_map.mp ha
      rfl
    · obtain ⟨x, _, rfl⟩ := List.mem_map.mp ha
      simp [PyData.depth, depth_ints]
  rw [if_pos ⟨ok, by rw [List.length_map]; exact hz⟩]
  have hk : ∀ l : List Int, keyOf (lD l) = .list (l.map .int) := fun l => by
    unfold keyOf lD
    simp only [toPy, toPys_ints, Option.map_some, Option.getD_some]
  have q := List.map_mergeSort (r := PySem.W.dataLe false fun l : List Int => PyData.list (l.map .int)) (s := PySem.W.dataLe false keyOf) (f := lD) (l := ls) (fun a _ b _ => by
    unfold PySem.W.dataLe PySem.W.sortLe
    simp only [hk])
  rw [← q, PySem.W.dataLe_rows (fun l : List Int => l)]
  rfl
theorem r1_sortedR {ls : List (List Int)} {Q : OD → Prop} (hz : ls.length ≤ sizeLine) (q : Q (.ol (((ls.mergeSort leR).map lD).map .s))) : R1 .sorted (.lst (ls.map lD)) Q := ⟨_, sortD_rows ls hz, q⟩
theorem w_pop {C : CallS} {e : MW.Env} {Q : OD → MW.Env → Prop} {i : Nat} {l : List OD} {d : D} (h : e[i]? = some (some (.ol l))) (hl : l.getLast? = some (.s d)) (q : Q (.s d) (e.set i (some (.ol l.dropLast)))) : WE C (.pop i) e Q := ⟨_, _, by simp only [ev, h, hl], q⟩
def partsL (pl : List Int) (rows : List (List Int)) : Nat → List (List Int) → List (List Int) → List (List Int)
  | 0, _, dn => dn
  | m + 1, ws, dn => match ws.getLast? with
    | none => dn
    | some part => match tellPP pl rows part with
      | none => partsL pl rows m ws.dropLast (dn ++ [part])
      | some t => partsL pl rows m (ws.dropLast ++ splitP pl rows t.1 part) dn
def partsP (pl : List Int) (rows : List (List Int)) (ms : List Int) : List (List Int) := (partsL pl rows (2 * ms.length) [ms] []).mergeSort leR
theorem tellPP_some {pl : List Int} {rows : List (List Int)} {ms : List Int} {t : Int × Int × Int} (h : tellPP pl rows ms = some t) : t.1 ∈ pl ∧ t.1 ∉ ms ∧ t.2.1 = ms.getD 0 0 ∧ t.2.2 ∈ ms ∧ colP pl rows t.1 t.2.2 ≠ colP pl rows t.1 (ms.getD 0 0) := by
  unfold tellPP at h
  obtain ⟨p, hp, e⟩ := List.exists_of_findSome?_eq_some h
  unfold tellPF at e
  split at e
  · cases e
  · rename_i hm
    obtain ⟨q, hq, rfl⟩ := Option.map_eq_some_iff.mp e
    unfold appP at hq
    exact ⟨hp, hm, rfl, List.mem_of_mem_drop (List.mem_of_find?_eq_some hq), by have := List.find?_some hq; exact of_decide_eq_true this⟩
def mu (ws : List (List Int)) : Nat := (ws.map fun p => 2 * p.length - 1).sum
theorem mu_app (a b : List (List Int)) : mu (a ++ b) = mu a + mu b := by unfold mu; rw [List.map_append, List.sum_append]
theorem mu_split {g : List (Int × List Int)} (h : ∀ p ∈ g, p.2 ≠ []) : mu (g.map (·.2)) + g.length = 2 * sizes g := by
  induction g with
  | nil => rfl
  | cons p g ih =>
    have h1 := ih fun q hq => h q (List.mem_cons_of_mem _ hq)
    have h2 := List.length_pos_iff.mpr (h p List.mem_cons_self)
    unfold mu sizes at *
    simp only [List.map_cons, List.sum_cons, List.length_cons] at *
    omega
theorem last_app {ws : List (List Int)} {part : List Int} (h : ws.getLast? = some part) : ws = ws.dropLast ++ [part] := by
  obtain ⟨ne, e⟩ := List.getLast?_eq_some_iff.mp h
  rw [e]; simp
structure PartOk (pl part : List Int) : Prop where
  ne : part ≠ []
  nd : part.Nodup
  sub : ∀ x ∈ part, x ∈ pl
theorem PartOk.split {pl part : List Int} (P : PartOk pl part) (c : Int → Int) : ∀ r ∈ (splitG c part []).map (·.2), PartOk pl r ∧ r.length ≤ part.length := by
  have S := split_ok (c := c) P.nd
  have key : ∀ (part seen : List Int) (g : List (Int × List Int)), (∀ p ∈ g, p.2.Sublist seen) → (∀ p ∈ splitG c part g, p.2.Sublist (seen ++ part)) := by
    intro part
    induction part with
    | nil => intro seen g h p hp; rw [List.append_nil]; exact h p hp
    | cons m r ih =>
      intro seen g h p hp
      have := ih (seen ++ [m]) (putD g (c m) (((valO g (c m)).getD []) ++ [m])) (fun q hq => ?_) p hp
      · rw [List.append_assoc] at this; exact this
      · have hv : ((valO g (c m)).getD []).Sublist seen := by
          cases hvv : valO g (c m) with
          | none => exact List.nil_sublist _
          | some v =>
            unfold valO at hvv
            obtain ⟨q, hq, rfl⟩ := Option.map_eq_some_iff.mp hvv
            exact h q (List.mem_of_find?_eq_some hq)
        have h2 : (((valO g (c m)).getD []) ++ [m]).Sublist (seen ++ [m]) := hv.append (List.Sublist.refl _)
        unfold putD at hq
        split at hq
        · obtain ⟨a, ha, rfl⟩ := List.mem_map.mp hq
          split
          · exact h2
          · exact (h a ha).trans (List.sublist_append_left _ _)
        · rcases List.mem_append.mp hq with hq | hq
          · exact (h q hq).trans (List.sublist_append_left _ _)
          · rw [List.mem_singleton] at hq
            subst hq
            exact h2
  intro r hr
  obtain ⟨p, hp, rfl⟩ := List.mem_map.mp hr
  have sb : p.2.Sublist part := by
    have := key part [] [] (fun _ z => nomatch z) p hp
    simpa using this
  exact ⟨⟨S.ne p hp, P.nd.sublist sb, fun x hx => P.sub x (sb.subset hx)⟩, sb.length_le⟩
theorem dropLast_map {α β : Type} (f : α → β) (l : List α) : (l.map f).dropLast = l.dropLast.map f := by rw [List.map_dropLast]
theorem parts62_at (d : Nat) (pl : List Int) (rows : List (List Int)) (nd : pl.Nodup) (ms : List Int) (hP : PartOk pl ms) (hl : ms.length ≤ 400) :
    evF T (d + 3) 62 [.s (.dk (byD pl rows)), .s (lD ms)] = .ok (.ol (((partsP pl rows ms).map lD).map .s)) := by
  unfold partsP
  obtain ⟨res, hR⟩ : ∃ res, partsL pl rows (2 * ms.length) [ms] [] = res := ⟨_, rfl⟩
  rw [hR]
  have h0 : 0 < ms.length := List.length_pos_iff.mpr hP.ne
  refine ret_is (call_ok (F := F62) rfl rfl ?_)
  show WSs _ (MSs.cons _ _) [some (.s (.dk (byD pl rows))), some (.s (lD ms)), none, none, none, none] _
  walk_at "gs"
  with_reducible refine ws_whl (fun m e => ∃ (ws dn : List (List Int)) (y4 y5 : Option OD), e = [some (.s (.dk (byD pl rows))), some (.s (lD ms)), some (.ol ((ws.map lD).map .s)), some (.ol ((dn.map lD).map .s)), y4, y5] ∧ (∀ p ∈ ws, PartOk pl p ∧ p.length ≤ 400) ∧ mu ws < m ∧ mu ws + dn.length + ws.length ≤ 2 * ms.length ∧ partsL pl rows m ws dn = res) (2 * ms.length) (by omega) ⟨[ms], [], none, none, rfl, fun p hp => by rw [List.mem_singleton] at hp; subst hp; exact ⟨hP, hl⟩, by unfold mu; simp; omega, by unfold mu; simp; omega, hR⟩ ?_
  rintro m e ⟨ws, dn, y4, y5, rfl, hw, hm, hb, hr⟩
  obtain ⟨m', rfl⟩ : ∃ m', m = m' + 1 := ⟨m - 1, by omega⟩
  unfold partsL at hr
  walk_at "go"
  · rename_i hlt
    have hne : ws ≠ [] := by rintro rfl; simp at hlt
    obtain ⟨part, hpt⟩ : ∃ part, ws.getLast? = some part := ⟨_, List.getLast?_eq_some_getLast hne⟩
    rw [hpt] at hr
    dsimp only at hr
    have ew := last_app hpt
    have mp : part ∈ ws := by rw [ew]; simp
    obtain ⟨Pp, lp⟩ := hw part mp
    have hmu : mu ws = mu ws.dropLast + (2 * part.length - 1) := by
      conv => lhs; rw [ew, mu_app]
      unfold mu; simp
    have hwl : ws.length = ws.dropLast.length + 1 := by
      conv => lhs; rw [ew]
      simp
    have p0 := List.length_pos_iff.mpr Pp.ne
    have hsub : ∀ p ∈ ws.dropLast, PartOk pl p ∧ p.length ≤ 400 := fun p hp => hw p (List.dropLast_subset _ hp)
    refine w_pop (d := lD part) rfl ?_ ?_
    · rw [List.getLast?_map, List.getLast?_map, hpt]; rfl
    · rw [dropLast_map, dropLast_map]
      walk_at "go"
      refine ⟨_, teller59_at d pl rows nd part Pp.sub Pp.ne, ?_⟩
      cases ht : tellPP pl rows part with
      | none =>
        rw [ht] at hr
        dsimp only at hr
        walk_at "go"
        refine r1_isNone ?_
        refine t_true ?_
        walk_at "go"
        refine ⟨_, rfl, by rw [List.length_map]; exact lt_size (by omega), ?_⟩
        walk_at "st"
        walk_at "go"
        exact ⟨m', by omega, ws.dropLast, dn ++ [part], some (.s (lD part)), some (.s (tell3D none)), by simp only [List.map_append, List.map_cons, List.map_nil], hsub, by omega, by rw [List.length_append, List.length_singleton]; omega, hr⟩
      | some t =>
        rw [ht] at hr
        dsimp only at hr
        obtain ⟨a1, a2, a3, a4, a5⟩ := tellPP_some ht
        have hgn := Pp.split (colP pl rows t.1)
        have S := split_ok (c := colP pl rows t.1) Pp.nd
        have h2 := two_rows (c := colP pl rows t.1) Pp.nd a4 (getD_memI p0) a5
        have hms := mu_split S.ne
        rw [S.sz] at hms
        have hsl : (splitP pl rows t.1 part).length = (splitG (colP pl rows t.1) part []).length := by unfold splitP; rw [List.length_map]
        have hkl := keys_le S
        obtain ⟨tp, tm, tq⟩ := t
        walk_at "go"
        refine r1_isNone ?_
        refine t_false ?_
        walk_at "go"
        refine r2_idxT (d := .int tp) rfl ?_
        walk_at "go"
        refine r2_idxK rfl (by_get nd a1) ?_
        walk_at "go"
        refine ⟨_, split61_at (d + 1) pl rows nd a1 part Pp.sub a2 Pp.nd lp, ?_⟩
        walk_at "go"
        refine ⟨_, _, rfl, .inl rfl, ?_, ?_⟩
        · rw [List.length_map, List.length_map]; exact le_size (by omega)
        · walk_at "st"
          walk_at "go"
          refine ⟨m', by omega, ws.dropLast ++ splitP pl rows tp part, dn, some (.s (lD part)), some (.s (tell3D (some (tp, tm, tq)))), by simp only [List.map_append, List.map_cons, List.map_nil], fun p hp => ?_, ?_, ?_, hr⟩
          · rcases List.mem_append.mp hp with hp | hp
            · exact hsub p hp
            · obtain ⟨b1, b2⟩ := hgn p hp
              exact ⟨b1, by omega⟩
          · rw [mu_app]
            unfold splitP
            dsimp only at hms hsl h2
            omega
          · rw [mu_app, List.length_append, hsl]
            unfold splitP
            dsimp only at hms hsl h2 ⊢
            omega
  · rename_i hlt
    have hne : ws = [] := by
      cases ws with
      | nil => rfl
      | cons a l => exfalso; apply hlt; simp
    subst hne
    have hr : dn = res := hr
    subst hr
    walk_at "go"
    refine r1_sortedR (le_size (by omega)) ?_
    walk_at "go"
    rfl
structure NatSet (n : Nat) (ins : List Nat) : Prop where
  ne : ins ≠ []
  asc : ins.Pairwise (· < ·)
  lt : ∀ x ∈ ins, x < n
def IsL (o : OD) (l : List D) : Prop := o = .ol (l.map .s) ∨ o = .s (.lst l)
def sortN (l : List Nat) : List Nat := l.mergeSort fun a b => decide (a ≤ b)
theorem r1_sortedN {ns : List Nat} {Q : OD → Prop} (hz : ns.length ≤ sizeLine) (q : Q (.ol ((natsD (sortN ns)).map .s))) : R1 .sorted (.lst (natsD ns)) Q := by
  rw [natsD_ints]
  refine r1_sortedI (by rw [List.length_map]; exact hz) ?_
  have := List.map_mergeSort (r := fun a b : Nat => decide (a ≤ b)) (s := leK id) (f := fun (k : Nat) => (k : Int)) (l := ns) (fun a _ b _ => by unfold leK; simp)
  rw [← this, ← natsD_ints]
  exact q
theorem sortN_mem {l : List Nat} {x : Nat} : x ∈ sortN l ↔ x ∈ l := (List.mergeSort_perm l _).mem_iff
theorem sortN_le (l : List Nat) : (sortN l).Pairwise (· ≤ ·) := (List.pairwise_mergeSort (fun a b c h1 h2 => by simp at *; omega) (fun a b => by simp; omega) l).imp fun h => of_decide_eq_true h
theorem sortN_lt {l : List Nat} (nd : l.Nodup) : (sortN l).Pairwise (· < ·) := by
  have h2 : (sortN l).Nodup := (List.mergeSort_perm l _).nodup_iff.mpr nd
  exact ((sortN_le l).and h2).imp fun h => by omega
theorem sortN_len (l : List Nat) : (sortN l).length = l.length := (List.mergeSort_perm l _).length_eq
theorem lt_nodupN {l : List Nat} (h : l.Pairwise (· < ·)) : l.Nodup := h.imp fun h => Nat.ne_of_lt h
theorem asc_len : ∀ (l : List Nat) (m n : Nat), l.Pairwise (· < ·) → (∀ x ∈ l, m ≤ x ∧ x < n) → m ≤ n → l.length + m ≤ n
  | [], _, _, _, _, h => by simpa using h
  | x :: l, m, n, hp, hx, _ => by
    rw [List.pairwise_cons] at hp
    obtain ⟨a, b⟩ := hx x List.mem_cons_self
    have := asc_len l (x + 1) n hp.2 (fun y hy => ⟨hp.1 y hy, (hx y (List.mem_cons_of_mem _ hy)).2⟩) (by omega)
    rw [List.length_cons]
    omega
theorem NatSet.len {n : Nat} {ins : List Nat} (S : NatSet n ins) : ins.length ≤ n := asc_len ins 0 n S.asc (fun x hx => ⟨Nat.zero_le _, S.lt x hx⟩) (Nat.zero_le _)
theorem tellN_some {rows : List (List Int)} {n : Nat} {ins : List Nat} {t : Nat × Nat × Nat} (h : tellN rows n ins = some t) : t.1 < n ∧ t.1 ∉ ins := by
  unfold tellN at h
  obtain ⟨p, hp, e⟩ := List.exists_of_findSome?_eq_some h
  unfold tellF at e
  split at e
  · cases e
  · rename_i hm
    obtain ⟨q, hq, rfl⟩ := Option.map_eq_some_iff.mp e
    exact ⟨List.mem_range.mp hp, hm⟩
theorem NatSet.add {n a : Nat} {ins : List Nat} (S : NatSet n ins) (ha : a < n) (hm : a ∉ ins) : NatSet n (sortN (ins ++ [a])) := by
  refine ⟨fun z => ?_, sortN_lt ?_, fun x hx => ?_⟩
  · have := sortN_len (ins ++ [a]); rw [z] at this; simp at this
  · rw [List.nodup_append]
    exact ⟨lt_nodupN S.asc, by simp, fun x hx y hy => by rw [List.mem_singleton] at hy; subst hy; exact fun z => hm (z ▸ hx)⟩
  · rcases List.mem_append.mp (sortN_mem.mp hx) with h | h
    · exact S.lt x h
    · rw [List.mem_singleton] at h; subst h; exact ha
theorem r2_shr {i : Int} {k : Nat} {j : Int} {Q : OD → Prop} (hj : j = (k : Int)) (q : Q (.s (.int (i / 2 ^ k)))) : R2 .shr (.int i) (.int j) Q := by
  subst hj
  exact ⟨_, by simp [p2Sem], q⟩
theorem filt_fm {α β : Type} (p : α → Bool) (f : α → β) : ∀ l : List α, (l.map fun k => if p k = true then some (f k) else none).filterMap id = (l.filter p).map f
  | [] => rfl
  | a :: l => by
    rw [List.map_cons, List.filterMap_cons, filt_fm p f l, List.filter_cons]
    by_cases h : p a = true <;> simp [h]
theorem natsD_filt (p : Nat → Bool) (l : List Nat) : (l.map fun (k : Nat) => if p k = true then some (D.int (k : Int)) else none).filterMap id = natsD (l.filter p) := filt_fm p (fun (k : Nat) => D.int (k : Int)) l
theorem NatSet.filter {n m : Nat} (p : Nat → Bool) (hm : m < n) (hp : p m = true) : NatSet n ((List.range n).filter p) :=
  ⟨List.ne_nil_of_mem (List.mem_filter.mpr ⟨List.mem_range.mpr hm, hp⟩), (range_lt n).filter _, fun x hx => List.mem_range.mp (List.mem_filter.mp hx).1⟩
theorem ws_rev {C : CallS} {e : MW.Env} {K : SOut → Prop} {i : Nat} {l : List OD} (h : e[i]? = some (some (.ol l))) (q : K (.nx (e.set i (some (.ol l.reverse))))) : WS C (.rev i) e K := by
  unfold WS
  simp only [ex, h]
  exact q
theorem last_max {pl : List Int} (pw : pl.Pairwise (· < ·)) (h0 : pl ≠ []) : ∀ x ∈ pl, x ≤ pl.getLastD 0 := by
  intro x hx
  obtain ⟨l, y, rfl⟩ : ∃ l y, pl = l ++ [y] := ⟨pl.dropLast, pl.getLast h0, (List.dropLast_concat_getLast h0).symm⟩
  have e : (l ++ [y]).getLastD 0 = y := by simp
  rw [e]
  rcases List.mem_append.mp hx with h | h
  · exact Int.le_of_lt ((List.pairwise_append.mp pw).2.2 x h y (by simp))
  · rw [List.mem_singleton] at h; omega
theorem IsL.toD {o : OD} {l : List D} (h : IsL o l) : o.toD = .lst l := by
  rcases h with rfl | rfl
  · simp only [OD.toD, toDs_s]
  · rfl
theorem r1_listL {l : List D} {Q : OD → Prop} (q : Q (.ol (l.map .s))) : R1 .listOf (.lst l) Q := ⟨_, rfl, q⟩
/-! ### groups, partings, quotients -/
theorem w_varJK {C : CallS} {e : MW.Env} {Q : OD → MW.Env → Prop} {i : Nat} {od : OD} {d : D} (h : e[i]? = some (some od)) (hd : od.toD = d) (q : Q (.s d) (e.set i (some (.s d)))) : WE C (.var i) e Q := by
  subst hd
  exact w_varO h q
theorem sort_permK {P pl : List Int} (h : P.Perm pl) (pw : pl.Pairwise (· < ·)) : P.mergeSort (leK id) = pl := by
  refine List.Perm.eq_of_pairwise (le := fun a b : Int => a ≤ b) (fun a b _ _ h1 h2 => Int.le_antisymm h1 h2) ?_ (pw.imp fun h => Int.le_of_lt h) ((List.mergeSort_perm _ _).trans h)
  exact sortK_sorted
theorem teller63N_ok (d : Nat) {N : D} {pl : List Int} {rows : List (List Int)} (hN : NetD N pl rows) (pw : pl.Pairwise (· < ·)) (R : RowsOk pl.length rows) (hn : pl.length ≤ 400) {some_ : List Int} (h : ∀ x ∈ some_, x ∈ pl) (hne : some_ ≠ []) :
    evF T (d + 3) 63 [.s N, .s (.lst (some_.map D.int))] = .ok (.s (tell3D (tellPP pl rows (inP pl some_)))) := by
  have hN' := hN
  obtain ⟨P, rfl, hP⟩ := hN
  refine ret_is (call_ok (F := F63) rfl rfl ?_)
  show WSs _ (MSs.cons _ _) [some (.s (.tup [P, .tup (rows.map rowD)])), some (.s (.lst (some_.map D.int)))] _
  walk_at "gs"
  refine ⟨_, shades_by_at (d + 1) pl rows hN' (lt_nodupI pw) R (by omega), td_by ?_⟩
  walk_at "gs"
  refine ⟨_, setof_ok (d + 1) pl some_ pw (by omega) h hne, ?_⟩
  walk_at "gs"
  refine ⟨_, teller59_at d pl rows (lt_nodupI pw) _ inP_sub (inP_ne h hne), ?_⟩
  walk_at "gs"
  rfl
theorem group64_at (d : Nat) {N : D} {pl : List Int} {rows : List (List Int)} (hN : NetD N pl rows) (pw : pl.Pairwise (· < ·)) (R : RowsOk pl.length rows) (hn : pl.length ≤ 400) {some_ : List Int} (h : ∀ x ∈ some_, x ∈ pl) (hne : some_ ≠ []) :
    evF T (d + 4) 64 [.s N, .s (.lst (some_.map D.int))] = .ok (.s (.bl (tellPP pl rows (inP pl some_)).isNone)) := by
  refine ret_is (call_ok (F := F64) rfl rfl ?_)
  show WSs _ (MSs.cons _ _) [some (.s N), some (.s (.lst (some_.map D.int)))] _
  walk_at "gs"
  refine ⟨_, teller63N_ok d hN pw R hn h hne, ?_⟩
  walk_at "gs"
  refine r1_isNone ?_
  walk_at "gs"
  cases tellPP pl rows (inP pl some_) with
  | none => rfl
  | some t => obtain ⟨a, b, c⟩ := t; rfl
theorem parting97_at (d : Nat) {pl : List Int} (pw : pl.Pairwise (· < ·)) (hn : pl.length ≤ 1000) {PP : List (List Int)} (h0 : ∀ p ∈ PP, p ≠ []) (hp : PP.flatten.Perm pl) : evF T (d + 1) 97 [.s (.tup (pl.map D.int)), .s (.lst (PP.map lD))] = .ok (.s (.bl true)) := by
  have lf : PP.flatten.length = pl.length := hp.length_eq
  refine ret_is (call_ok (F := F97) rfl rfl ?_)
  show WSs _ (MSs.cons _ _) [some (.s (.tup (pl.map D.int))), some (.s (.lst (PP.map lD))), none, none] _
  walk_at "gs"
  with_reducible refine ws_for (wi_seq ?_)
  walk_at "gs"
  refine ⟨_, rfl, fun j e => ∃ (o : OD) (y : Option OD), (o = .ol (((PP.take j).flatten.map D.int).map .s) ∨ o = .s (lD (PP.take j).flatten)) ∧ e = [some (.s (.tup (pl.map D.int))), some (.s (.lst (PP.map lD))), some o, y], ⟨_, none, .inl rfl, rfl⟩, ?_, ?_⟩
  · rintro j x e hx ⟨o, y, ho, rfl⟩
    obtain ⟨ms, hms, rfl⟩ := map_get hx
    have m0 := h0 ms (List.mem_of_getElem? hms)
    have hl : ¬ ((ms.map D.int).length : Int) = 0 := by
      have := List.length_pos_iff.mpr m0
      rw [List.length_map]
      omega
    have hoD : o.toD = .lst ((PP.take j).flatten.map D.int) := by
      rcases ho with rfl | rfl
      · simp only [OD.toD, toDs_s]
      · rfl
    have e1 : (PP.take (j + 1)).flatten = (PP.take j).flatten ++ ms := by
      rw [List.take_add_one, hms, List.flatten_append]
      simp
    have l1 : (PP.take (j + 1)).flatten.length ≤ PP.flatten.length := by
      conv => rhs; rw [← List.take_append_drop (j + 1) PP, List.flatten_append, List.length_append]
      omega
    rw [e1, List.length_append] at l1
    refine ⟨_, rfl, ?_⟩
    walk_at "st"
    unfold lD
    walk_at "go"
    · rename_i h; exact absurd h hl
    · walk_at "go"
      refine w_varJK rfl hoD ?_
      walk_at "st"
      walk_at "go"
      refine r1_rfl (p := .listOf) (d := .lst (ms.map D.int)) (od := .ol ((ms.map D.int).map .s)) rfl ?_
      walk_at "go"
      refine r2_addL (le_size (by rw [List.length_map, List.length_map]; omega)) ?_
      rw [← List.map_append, ← e1]
      walk_at "go"
      exact ⟨_, _, .inl rfl, rfl⟩
  · rintro e ⟨o, y, ho, rfl⟩
    have hoD : o.toD = .lst (PP.flatten.map D.int) := by
      rw [List.length_map, List.take_length] at ho
      rcases ho with rfl | rfl
      · simp only [OD.toD, toDs_s]
      · rfl
    walk_at "gs"
    refine w_varJK rfl hoD ?_
    walk_at "st"
    walk_at "gs"
    refine r1_sortedI (le_size (by omega)) ?_
    rw [sort_permK hp pw]
    walk_at "gs"
    refine r1_sortedTI (le_size (by omega)) ?_
    rw [sort_lt pw]
    walk_at "gs"
    refine r2_rfl (od := .s (.bl true)) (by simp only [p2Sem, eqD_ints, Option.map_some]) ?_
    walk_at "gs"
    rfl
theorem capE_nilK {e : MW.Env} : capE [] e = some ([], e) := rfl
theorem capE_consK {j : Nat} {js : List Nat} {e e1 : MW.Env} {od : OD} {d : D} {ws : List D} (h : e[j]? = some (some od)) (hd : od.toD = d) (h2 : capE js (e.set j (some (.s d))) = some (ws, e1)) : capE (j :: js) e = some (d :: ws, e1) := by
  subst hd
  simp only [capE, h, h2, Option.map_some]
def minK : List Int → Int
  | [] => 0
  | x :: r => r.foldl minI x
theorem foldl_minI : ∀ (r : List Int) (x : Int), r.foldl minI x ∈ x :: r
  | [], x => by simp
  | y :: r, x => by
    rw [List.foldl_cons]
    have h := foldl_minI r (minI x y)
    rcases List.mem_cons.mp h with z | z
    · rw [z]
      unfold minI
      split <;> simp
    · simp [z]
theorem minK_mem {ms : List Int} (h : ms ≠ []) : minK ms ∈ ms := by
  cases ms with
  | nil => exact absurd rfl h
  | cons x r => exact foldl_minI r x
theorem r1_minK {ms : List Int} {Q : OD → Prop} (h : ms ≠ []) (q : Q (.s (.int (minK ms)))) : R1 .minL (.lst (ms.map D.int)) Q := by
  cases ms with
  | nil => exact absurd rfl h
  | cons x r => exact r1_min q
def hdsK (PP : List (List Int)) : List Int := (PP.map minK).mergeSort (leK id)
theorem hdsK_mem {PP : List (List Int)} {x : Int} : x ∈ hdsK PP ↔ ∃ ms ∈ PP, minK ms = x := by
  unfold hdsK
  rw [(List.mergeSort_perm _ _).mem_iff, List.mem_map]
theorem hdsK_len (PP : List (List Int)) : (hdsK PP).length = PP.length := by
  unfold hdsK
  rw [(List.mergeSort_perm _ _).length_eq, List.length_map]
/-- a parting of the places -/
structure PartK (pl : List Int) (PP : List (List Int)) : Prop where
  ne : ∀ p ∈ PP, p ≠ []
  perm : PP.flatten.Perm pl
theorem PartK.sub {pl : List Int} {PP : List (List Int)} (h : PartK pl PP) {ms : List Int} (hm : ms ∈ PP) : ∀ x ∈ ms, x ∈ pl := fun x hx => h.perm.mem_iff.mp (List.mem_flatten.mpr ⟨ms, hm, hx⟩)
theorem PartK.nd {pl : List Int} {PP : List (List Int)} (h : PartK pl PP) (nd : pl.Nodup) : (PP.map minK).Nodup := by
  have hf : PP.flatten.Nodup := h.perm.nodup_iff.mpr nd
  unfold List.Nodup at hf
  rw [List.pairwise_flatten] at hf
  refine List.pairwise_map.mpr (hf.2.imp_of_mem fun {a b} ha hb hd e => ?_)
  exact hd _ (minK_mem (h.ne a ha)) _ (minK_mem (h.ne b hb)) e
theorem PartK.len {pl : List Int} {PP : List (List Int)} (h : PartK pl PP) : PP.length ≤ pl.length := by
  rw [← h.perm.length_eq, List.length_flatten]
  have : ∀ l : List (List Int), (∀ p ∈ l, p ≠ []) → l.length ≤ (l.map List.length).sum := by
    intro l
    induction l with
    | nil => intro _; simp
    | cons a l ih =>
      intro hl
      have h1 := ih fun p hp => hl p (List.mem_cons_of_mem _ hp)
      have h2 := List.length_pos_iff.mpr (hl a List.mem_cons_self)
      simp only [List.length_cons, List.map_cons, List.sum_cons]
      omega
  exact this PP h.ne
set_option maxHeartbeats 1000000 in
theorem quotient98_at (d : Nat) {N : D} {pl : List Int} {rows : List (List Int)} (hN : NetD N pl rows) (cN : N.noC = true) (pw : pl.Pairwise (· < ·)) (R : RowsOk pl.length rows) (hn : pl.length ≤ 100) {PP : List (List Int)} (hP : PartK pl PP) (hg : ∀ ms ∈ PP, tellPP pl rows (inP pl ms) = none) :
    evF T (d + 6) 98 [.s N, .s (.lst (PP.map lD))] = .ok (.s (netP (hdsK PP) (rowsOf (hdsK PP) (colP pl rows)))) := by
  have hN' := hN
  have lP := hP.len
  obtain ⟨P, rfl, vP⟩ := hN
  refine ret_is (call_ok (F := F98) rfl rfl ?_)
  show WSs _ (MSs.cons _ _) [some (.s (.tup [P, .tup (rows.map rowD)])), some (.s (.lst (PP.map lD))), none, none] _
  walk_at "go"
  refine ⟨_, parting97_at (d + 4) pw (by omega) hP.ne hP.perm, ?_⟩
  walk_at "go"
  with_reducible refine ws_for (wi_seq ?_)
  walk_at "go"
  refine ⟨_, rfl, fun j e => ∃ y : Option D, e = [some (.s (.tup [P, .tup (rows.map rowD)])), some (.s (.lst (PP.map lD))), y.map OD.s, none], ⟨none, rfl⟩, ?_, ?_⟩
  · rintro j x e hx ⟨y, rfl⟩
    obtain ⟨ms, hms, rfl⟩ := map_get hx
    have mm := List.mem_of_getElem? hms
    have g := group64_at (d + 1) hN' pw R (by omega) (hP.sub mm) (hP.ne ms mm)
    rw [hg ms mm, Option.isNone_none] at g
    refine ⟨_, rfl, ?_⟩
    walk_at "st"
    walk_at "go"
    refine ⟨_, g, ?_⟩
    walk_at "go"
    exact ⟨some (lD ms), rfl⟩
  · rintro e ⟨y, rfl⟩
    walk_at "go"
    refine w_callL (capE_consK rfl rfl capE_nilK) ?_
    walk_at "st"
    walk_at "go"
    with_reducible refine w_map (α := List Int) (wi_seq ?_)
    walk_at "go"
    have hw : wipeOk [2] [some (.s (.tup [P, .tup (rows.map rowD)])), some (.s (.lst (PP.map lD))), y.map OD.s, none] = true := by cases y <;> rfl
    refine ⟨_, rfl, hw, PP, lD, fun ms => D.int (minK ms), rfl, le_size (by omega), fun j ms hms => ⟨_, rfl, ?_⟩, ?_⟩
    · have m0 := hP.ne ms (List.mem_of_getElem? hms)
      walk_at "go"
      unfold lD
      refine r1_minK m0 ?_
      walk_at "go"
      refine ⟨rfl, ?_⟩
      cases y <;> exact ⟨rfl, rfl⟩
    · rw [show (PP.map fun ms => D.int (minK ms)) = (PP.map minK).map D.int by rw [List.map_map]; rfl]
      walk_at "go"
      refine r1_sortedI (le_size (by rw [List.length_map]; omega)) ?_
      rw [show (PP.map minK).mergeSort (leK id) = hdsK PP from rfl]
      walk_at "go"
      have nd : pl.Nodup := lt_nodupI pw
      have hnd : (hdsK PP).Nodup := (List.mergeSort_perm _ _).nodup_iff.mpr (hP.nd nd)
      have hmem : ∀ x ∈ hdsK PP, x ∈ pl := fun x hx => by
        obtain ⟨ms, hm, rfl⟩ := hdsK_mem.mp hx
        exact hP.sub hm _ (minK_mem (hP.ne ms hm))
      refine ⟨by simp only [D.noC]; exact noCs_ints _, by simp only [D.noCs, OD.toD]; rw [cN]; rfl, _, netby_at (d + 4) (hdsK PP) (by rw [hdsK_len]; omega) 405 _ (colP pl rows) (fun k j hk hj => ?_), by simp only [OD.noC]; exact netP_noC _ _, ?_⟩
      · have hne : (hdsK PP).getD k 0 ≠ (hdsK PP).getD j 0 := fun z => by
          have := getD_inj' hnd hk (by omega) z
          omega
        have mk := hmem _ (getD_memI hk)
        have mj := hmem _ (getD_memI (show j < (hdsK PP).length by omega))
        refine ret_is (call_ok (F := F405) rfl rfl ?_)
        show WSs _ (MSs.cons _ _) [some (.s (.int _)), some (.s (.int _)), some (.s (.tup [P, .tup (rows.map rowD)]))] _
        walk_at "go"
        refine ⟨_, colourN_ok d hN' R mk mj hne, ?_⟩
        walk_at "go"
        rfl
      · walk_at "go"
        rfl
/-! ### parts of nets; a net renamed; filled back -/
theorem likeL_bl (d : Nat) (b : Bool) : evF T (d + 1) 21 [.s (.bl b), .s (.bl b)] = .ok (.s (.bl true)) := by
  refine ret_is (call_ok (F := F21) rfl rfl ?_)
  show WSs _ (MSs.cons _ _) [some (.s (.bl b)), some (.s (.bl b)), none] _
  walk_at "go"
  refine ⟨_, rfl, t_false ?_⟩
  walk_at "go"
  refine ⟨_, rfl, t_true ?_⟩
  walk_at "go"
  refine ⟨_, rfl, b_true ?_⟩
  walk_at "go"
  refine ⟨.s (.bl true), by cases b <;> rfl, ?_⟩
  walk_at "go"
  rfl
theorem outF_lenL {pa : List Int} {p : Int} (h : p ∈ pa) : (outF pa p).length + 1 ≤ pa.length := by
  have : (outF pa p).length < pa.length := by
    unfold outF
    exact List.length_filter_lt_length_iff_exists.mpr ⟨p, h, by simp⟩
  omega
theorem rowsOf_congr {H : List Int} {S1 S2 : Int → Int → Int} (nd : H.Nodup) (h : ∀ x ∈ H, ∀ y ∈ H, x ≠ y → S1 x y = S2 x y) : rowsOf H S1 = rowsOf H S2 := by
  unfold rowsOf
  refine List.map_congr_left fun k hk => ?_
  have hk := List.mem_range.mp hk
  unfold rowOf
  refine List.map_congr_left fun j hj => ?_
  have hj := List.mem_range.mp hj
  exact h _ (getD_memI hk) _ (getD_memI (by omega)) fun z => by
    have := getD_inj' nd hk (by omega) z
    omega
theorem colL_rowsOf {H : List Int} {S : Int → Int → Int} {k j : Nat} (hk : k < H.length) (hj : j < k) : col (rowsOf H S) k j = S (H.getD k 0) (H.getD j 0) := by
  unfold col
  rw [Nat.max_eq_left (by omega), Nat.min_eq_right (by omega)]
  have e : (rowsOf H S)[k]? = some (rowOf H S k) := by
    unfold rowsOf
    rw [List.getElem?_map, List.getElem?_range hk]
    rfl
  rw [List.getD_eq_getElem?_getD (l := rowsOf H S), e]
  show (rowOf H S k).getD j 0 = _
  unfold rowOf
  rw [List.getD_eq_getElem?_getD, List.getElem?_map, List.getElem?_range hj]
  rfl
theorem colP_rowsOf {H : List Int} {S : Int → Int → Int} (sym : ∀ x y, S x y = S y x) {x y : Int} (hx : x ∈ H) (hy : y ∈ H) (hne : x ≠ y) : colP H (rowsOf H S) x y = S x y := by
  have i := idx_ne hx hy hne
  unfold colP
  rcases Nat.lt_or_gt_of_ne i with h | h
  · rw [col_comm, colL_rowsOf (idx_lt hy) h, idx_get hx, idx_get hy, sym]
  · rw [colL_rowsOf (idx_lt hx) h, idx_get hx, idx_get hy]
theorem colP_sym (pl : List Int) (rows : List (List Int)) (x y : Int) : colP pl rows x y = colP pl rows y x := by
  unfold colP
  rw [col_comm]
theorem shF_sym (pa : List Int) (ra : List (List Int)) (p : Int) (pb : List Int) (rb : List (List Int)) (x y : Int) : shF pa ra p pb rb x y = shF pa ra p pb rb y x := by
  unfold shF
  by_cases hx : x ∈ pb <;> by_cases hy : y ∈ pb
  · simp only [if_pos hx, if_pos hy]; exact colP_sym ..
  · simp only [if_pos hx, if_neg hy]; exact colP_sym ..
  · simp only [if_neg hx, if_pos hy]; exact colP_sym ..
  · simp only [if_neg hx, if_neg hy]; exact colP_sym ..
theorem tellPP_none {pl : List Int} {rows : List (List Int)} {ms : List Int} (h : ∀ p ∈ pl, p ∉ ms → ∀ q ∈ ms, colP pl rows p q = colP pl rows p (ms.getD 0 0)) : tellPP pl rows ms = none := by
  unfold tellPP
  rw [List.findSome?_eq_none_iff]
  intro p hp
  unfold tellPF
  split
  · rfl
  · rename_i hn
    unfold appP
    rw [Option.map_eq_none_iff, List.find?_eq_none]
    intro q hq
    simp only [decide_eq_true_eq, ne_eq, Decidable.not_not]
    exact h p hp hn q (List.mem_of_mem_drop hq)
theorem tellPP_alike {pl : List Int} {rows : List (List Int)} {ms : List Int} (h : tellPP pl rows ms = none) : ∀ p ∈ pl, p ∉ ms → ∀ q ∈ ms, colP pl rows p q = colP pl rows p (ms.getD 0 0) := by
  intro p hp hn q hq
  unfold tellPP at h
  rw [List.findSome?_eq_none_iff] at h
  have := h p hp
  unfold tellPF at this
  rw [if_neg hn, Option.map_eq_none_iff] at this
  unfold appP at this
  rw [List.find?_eq_none] at this
  cases ms with
  | nil => cases hq
  | cons a r =>
    rcases List.mem_cons.mp hq with rfl | hq
    · rfl
    · have := this q hq
      simpa using this
theorem lt_extI {a b : List Int} (ha : a.Pairwise (· < ·)) (hb : b.Pairwise (· < ·)) (h : ∀ x, x ∈ a ↔ x ∈ b) : a = b := by
  refine List.Perm.eq_of_pairwise (le := fun a b : Int => a ≤ b) (fun a b _ _ h1 h2 => Int.le_antisymm h1 h2) (ha.imp fun h => Int.le_of_lt h) (hb.imp fun h => Int.le_of_lt h) ?_
  exact (List.perm_ext_iff_of_nodup (lt_nodupI ha) (lt_nodupI hb)).mpr h
theorem inP_asc {pl : List Int} (pw : pl.Pairwise (· < ·)) (ms : List Int) : (inP pl ms).Pairwise (· < ·) := pw.sublist List.filter_sublist
theorem inP_iff {pl ms : List Int} {x : Int} : x ∈ inP pl ms ↔ x ∈ pl ∧ x ∈ ms := by
  unfold inP
  rw [List.mem_filter, decide_eq_true_eq]
theorem inP_len {pl ms : List Int} : (inP pl ms).length ≤ pl.length := List.length_filter_le _ _
theorem part42_at (d : Nat) {N : D} {pl : List Int} {rows : List (List Int)} (hN : NetD N pl rows) (cN : N.noC = true) (pw : pl.Pairwise (· < ·)) (R : RowsOk pl.length rows) (hn : pl.length ≤ 100) {some_ : List Int} (h : ∀ x ∈ some_, x ∈ pl) (hne : some_ ≠ []) :
    evF T (d + 6) 42 [.s N, .s (lD some_)] = .ok (.s (netP (inP pl some_) (rowsOf (inP pl some_) (colP pl rows)))) := by
  have hN' := hN
  obtain ⟨P, rfl, vP⟩ := hN
  have lI := inP_len (pl := pl) (ms := some_)
  refine ret_is (call_ok (F := F42) rfl rfl ?_)
  show WSs _ (MSs.cons _ _) [some (.s (.tup [P, .tup (rows.map rowD)])), some (.s (lD some_)), none] _
  walk_at "go"
  refine w_callL (capE_consK (d := .tup [P, .tup (rows.map rowD)]) rfl rfl capE_nilK) ?_
  walk_at "st"
  walk_at "go"
  refine ⟨_, setof_ok (d + 4) pl some_ pw (by omega) h hne, ?_⟩
  walk_at "go"
  have nd := lt_nodupI (inP_asc pw some_)
  refine ⟨by simp only [D.noC]; exact noCs_ints _, by simp only [D.noCs, OD.toD]; rw [cN]; rfl, _, netby_at (d + 4) (inP pl some_) (by omega) 404 _ (colP pl rows) (fun k j hk hj => ?_), by simp only [OD.noC]; exact netP_noC _ _, ?_⟩
  · have hne : (inP pl some_).getD k 0 ≠ (inP pl some_).getD j 0 := fun z => by
      have := getD_inj' nd hk (by omega) z
      omega
    have mk := inP_sub _ (getD_memI hk)
    have mj := inP_sub _ (getD_memI (show j < (inP pl some_).length by omega))
    refine ret_is (call_ok (F := F404) rfl rfl ?_)
    show WSs _ (MSs.cons _ _) [some (.s (.int _)), some (.s (.int _)), some (.s (.tup [P, .tup (rows.map rowD)]))] _
    walk_at "go"
    refine ⟨_, colourN_ok d hN' R mk mj hne, ?_⟩
    walk_at "go"
    rfl
  · walk_at "go"
    rfl
section
variable {pa : List Int} {ra : List (List Int)} {A : D} {p o : Int}
set_option maxHeartbeats 2000000 in
theorem renamed110_at (d : Nat) (hA : NetD A pa ra) (RA : RowsOk pa.length ra) (na : pa.Nodup) (hp : p ∈ pa) (ho : o ∈ pa → o = p) (hn : pa.length ≤ 100) :
    evF T (d + 2) 110 [.s A, .s (.int p), .s (.int o)] = .ok (.s (netP (riseF pa p [o]) (rowsOf (riseF pa p [o]) (shF pa ra p [o] [[]])))) := by
  obtain ⟨la, ha, ga⟩ := dict46_at d hA RA na hn
  obtain ⟨PA, rfl, vA⟩ := hA
  have lo := outF_lenL hp
  generalize hr : riseF pa p [o] = rise
  have rn : rise.Nodup := by rw [← hr]; exact riseF_nd na (by simp) fun x hx hx2 => by rw [List.mem_singleton] at hx; subst hx; exact ho hx2
  have rl : rise.length ≤ 100 := by rw [← hr, riseF_len]; simp; omega
  have rm : ∀ x ∈ rise, (x ∈ pa ∧ x ≠ p) ∨ x ∈ [o] := fun x hx => by rw [← hr] at hx; exact riseF_mem.mp hx
  generalize hS : shF pa ra p [o] [[]] = S
  refine ret_is (call_ok (F := F110) rfl rfl ?_)
  show WSs _ (MSs.cons _ _) [some (.s (.tup [PA, .tup (ra.map rowD)])), some (.s (.int p)), some (.s (.int o)), none, none, none, none, none, none, none] _
  walk_at "gs"
  refine ⟨_, ha, ?_⟩
  walk_at "gs"
  with_reducible refine w_comp (wi_seq ?_)
  walk_at "gs"
  refine ⟨_, rfl, rfl, by rw [List.length_map]; exact le_size (by omega), pa.map fun x => if x ≠ p then some (D.int x) else none, by rw [List.length_map, List.length_map], ?_, ?_⟩
  · intro j x u hx hu
    obtain ⟨v, hv, rfl⟩ := map_get hx
    rw [List.getElem?_map, hv] at hu
    have eo : (if v ≠ p then some (D.int v) else none) = u := Option.some.inj hu
    refine ⟨_, rfl, wt_some ?_⟩
    walk_at "gs"
    · rename_i hm
      rw [if_pos hm] at eo
      exact ⟨eo.symm, rfl, rfl⟩
    · rename_i hm
      rw [if_neg hm] at eo
      exact ⟨eo.symm, rfl, rfl⟩
  · rw [outF_fm]
    walk_at "gs"
    refine r2_addL (le_size (by simp only [List.length_map, List.length_cons, List.length_nil]; omega)) ?_
    rw [show (outF pa p).map D.int ++ [D.int o] = (outF pa p ++ [o]).map D.int by simp]
    walk_at "gs"
    refine r1_sortedI (le_size (by rw [List.length_append]; simp; omega)) ?_
    rw [show (outF pa p ++ [o]).mergeSort (leK id) = rise from hr]
    walk_at "gs"
    with_reducible refine ws_for (wi_enum ?_)
    walk_at "gs"
    refine ⟨_, rfl, fun k e => ∃ y6 y7 y8 y9, e = [some (.s (.tup [PA, .tup (ra.map rowD)])), some (.s (.int p)), some (.s (.int o)), some (.odt (liftT la)), some (.s (.lst (rise.map D.int))), some (.ol ((((List.range k).map (rowOf rise S)).map rowD).map .s)), y6, y7, y8, y9], ⟨_, _, _, _, rfl⟩, ?_, ?_⟩
    · rintro k v e hv ⟨y6, y7, y8, y9, rfl⟩
      obtain ⟨w, hw, rfl⟩ := enumG_get hv
      obtain ⟨x, hx, rfl⟩ := map_get hw
      have hk : k < rise.length := (List.getElem?_eq_some_iff.mp hx).1
      have ex := getD_ints hx
      have mx := rm x (List.mem_of_getElem? hx)
      refine ⟨_, rfl, ?_⟩
      walk_at "st"
      walk_at "gs"
      with_reducible refine ws_for (wi_seq ?_)
      walk_at "gs"
      refine r2_hiL (k := k) rfl ?_
      walk_at "gs"
      refine ⟨_, rfl, fun j e => ∃ y9, e = [some (.s (.tup [PA, .tup (ra.map rowD)])), some (.s (.int p)), some (.s (.int o)), some (.odt (liftT la)), some (.s (.lst (rise.map D.int))), some (.ol ((((List.range k).map (rowOf rise S)).map rowD).map .s)), some (.s (.int (k : Nat))), some (.s (.int x)), some (.ol ((((List.range j).map fun j => S (rise.getD k 0) (rise.getD j 0)).map D.int).map .s)), y9], ⟨_, rfl⟩, ?_, ?_⟩
      · rintro j v e hv ⟨y9, rfl⟩
        have hj : j < k := by
          have := (List.getElem?_eq_some_iff.mp hv).1
          rw [List.length_take] at this
          omega
        rw [List.getElem?_take_of_lt hj] at hv
        obtain ⟨y, hy, rfl⟩ := map_get hv
        have ey := getD_ints hy
        have my := rm y (List.mem_of_getElem? hy)
        have hne : x ≠ y := by
          intro e
          have h1 := (List.getElem?_eq_some_iff.mp hx).2
          have h2 := (List.getElem?_eq_some_iff.mp hy).2
          have := (List.getElem_inj rn).mp (h1.trans (e.trans h2.symm))
          omega
        have e9 : ((List.range j).map fun j => S (rise.getD k 0) (rise.getD j 0)).map D.int ++ [D.int (S x y)] = ((List.range (j + 1)).map fun j => S (rise.getD k 0) (rise.getD j 0)).map D.int := by
          rw [List.range_succ]
          simp only [List.map_append, List.map_cons, List.map_nil, ex, ey]
        refine ⟨_, rfl, ?_⟩
        walk_at "st"
        walk_at "go"
        · rename_i h1
          subst h1
          have hy1 : y ∈ pa ∧ y ≠ p := my.resolve_right fun z => hne (List.mem_singleton.mp z).symm
          have eS : S x y = colP pa ra p y := by rw [← hS]; unfold shF; rw [if_pos (by simp), if_neg (by simpa using fun z => hne z.symm)]
          refine ⟨_, rfl, le_size (by simp), ?_⟩
          walk_at "go"
          refine r2_idxDT (ga p hp y hy1.1 fun z => hy1.2 z.symm) ?_
          walk_at "go"
          refine ⟨_, rfl, lt_size (by rw [List.length_map, List.length_map, List.length_range]; omega), ?_⟩
          walk_at "st"
          walk_at "go"
          rw [← eS, e9]
          exact ⟨_, rfl⟩
        · rename_i h1
          have hx1 : x ∈ pa ∧ x ≠ p := mx.resolve_right fun z => h1 (List.mem_singleton.mp z)
          walk_at "go"
          · rename_i h2
            subst h2
            have eS : S x y = colP pa ra x p := by rw [← hS]; unfold shF; rw [if_neg (by simpa using h1), if_pos (by simp)]
            refine ⟨_, rfl, le_size (by simp), ?_⟩
            walk_at "go"
            refine r2_idxDT (ga x hx1.1 p hp hx1.2) ?_
            walk_at "go"
            refine ⟨_, rfl, lt_size (by rw [List.length_map, List.length_map, List.length_range]; omega), ?_⟩
            walk_at "st"
            walk_at "go"
            rw [← eS, e9]
            exact ⟨_, rfl⟩
          · rename_i h2
            have hy1 : y ∈ pa ∧ y ≠ p := my.resolve_right fun z => h2 (List.mem_singleton.mp z)
            walk_at "go"
            have eS : S x y = colP pa ra x y := by rw [← hS]; unfold shF; rw [if_neg (by simpa using h1), if_neg (by simpa using h2)]
            refine ⟨_, rfl, le_size (by simp), ?_⟩
            walk_at "go"
            refine r2_idxDT (ga x hx1.1 y hy1.1 hne) ?_
            walk_at "go"
            refine ⟨_, rfl, lt_size (by rw [List.length_map, List.length_map, List.length_range]; omega), ?_⟩
            walk_at "st"
            walk_at "go"
            rw [← eS, e9]
            exact ⟨_, rfl⟩
      · rintro e ⟨y9, rfl⟩
        rw [show ((rise.map D.int).take k).length = k by rw [List.length_take, List.length_map]; omega]
        walk_at "gs"
        refine ⟨_, rfl, lt_size (by rw [List.length_map, List.length_map, List.length_range]; omega), ?_⟩
        walk_at "st"
        walk_at "gs"
        have e1 : D.tup (((List.range k).map fun j => S (rise.getD k 0) (rise.getD j 0)).map D.int) = rowD (rowOf rise S k) := rfl
        have e2 : ((List.range k).map (rowOf rise S)).map rowD ++ [rowD (rowOf rise S k)] = ((List.range (k + 1)).map (rowOf rise S)).map rowD := by
          rw [List.range_succ]
          simp only [List.map_append, List.map_cons, List.map_nil]
        rw [e1, e2]
        exact ⟨_, _, _, _, rfl⟩
    · rintro e ⟨y6, y7, y8, y9, rfl⟩
      rw [show (enumD (rise.map D.int)).length = rise.length by simp [enumD]]
      walk_at "gs"
      rfl
end
/-! ### the law of fillings taken back -/
theorem rowsOf_selfL {pl : List Int} {rows : List (List Int)} (R : RowsOk pl.length rows) (nd : pl.Nodup) : rowsOf pl (colP pl rows) = rows := by
  refine List.ext_getElem? fun k => ?_
  unfold rowsOf
  rw [List.getElem?_map]
  by_cases hk : k < pl.length
  · rw [List.getElem?_range hk]
    have hk2 : k < rows.length := by rw [R.len]; exact hk
    rw [List.getElem?_eq_getElem hk2, Option.map_some]
    congr 1
    have hr := R.row k _ (List.getElem?_eq_getElem hk2)
    unfold rowOf
    refine List.ext_getElem? fun j => ?_
    rw [List.getElem?_map]
    by_cases hj : j < k
    · rw [List.getElem?_range hj]
      have hj2 : j < rows[k].length := by rw [hr]; exact hj
      rw [List.getElem?_eq_getElem hj2, Option.map_some]
      congr 1
      have g := row_at R hk hj
      unfold colP
      have i1 : pl.idxOf (pl.getD k 0) = k := idx_getD nd hk
      have i2 : pl.idxOf (pl.getD j 0) = j := idx_getD nd (by omega)
      rw [i1, i2]
      unfold col
      have e0 : rows.getD k [] = rows[k] := by rw [List.getD_eq_getElem?_getD, List.getElem?_eq_getElem hk2]; rfl
      rw [Nat.max_eq_left (by omega), Nat.min_eq_right (by omega), e0, List.getD_eq_getElem?_getD, List.getElem?_eq_getElem hj2]
      rfl
    · rw [List.getElem?_eq_none (by simpa using hj), List.getElem?_eq_none (by omega)]
      rfl
  · rw [List.getElem?_eq_none (by simpa using hk), List.getElem?_eq_none (by rw [R.len]; omega)]
    rfl
/-- a net filled -/
structure FillOk (pa pb : List Int) (ra rb : List (List Int)) (p : Int) : Prop where
  RA : RowsOk pa.length ra
  RB : RowsOk pb.length rb
  wa : pa.Pairwise (· < ·)
  wb : pb.Pairwise (· < ·)
  hp : p ∈ pa
  hd : ∀ x ∈ pb, x ∈ pa → x = p
  ne : pb ≠ []
section
variable {pa pb : List Int} {ra rb : List (List Int)} {p : Int}
def wR (pa : List Int) (ra : List (List Int)) (p : Int) (pb : List Int) (rb : List (List Int)) : List (List Int) := rowsOf (riseF pa p pb) (shF pa ra p pb rb)
theorem FillOk.nd (h : FillOk pa pb ra rb p) : (riseF pa p pb).Nodup := riseF_nd (lt_nodupI h.wa) (lt_nodupI h.wb) h.hd
theorem riseF_lt (h : (riseF pa p pb).Nodup) : (riseF pa p pb).Pairwise (· < ·) :=
  ((sortK_sorted (l := outF pa p ++ pb) (key := id)).and h).imp fun {a b} h => Int.lt_iff_le_and_ne.mpr ⟨h.1, h.2⟩
theorem FillOk.w (h : FillOk pa pb ra rb p) : (riseF pa p pb).Pairwise (· < ·) := riseF_lt h.nd
theorem wR_ok : RowsOk (riseF pa p pb).length (wR pa ra p pb rb) := rowsOf_ok _ _
theorem wcol {x y : Int} (hx : x ∈ riseF pa p pb) (hy : y ∈ riseF pa p pb) (hne : x ≠ y) : colP (riseF pa p pb) (wR pa ra p pb rb) x y = shF pa ra p pb rb x y := colP_rowsOf (fun x y => shF_sym pa ra p pb rb x y) hx hy hne
theorem FillOk.sub (h : FillOk pa pb ra rb p) : ∀ x ∈ pb, x ∈ riseF pa p pb := fun x hx => riseF_mem.mpr (.inr hx)
theorem FillOk.out (h : FillOk pa pb ra rb p) {x : Int} (hx : x ∈ outF pa p) : x ∈ riseF pa p pb ∧ x ∉ pb := by
  have hx := outF_mem.mp hx
  exact ⟨riseF_mem.mpr (.inl hx), fun z => hx.2 (h.hd x z hx.1)⟩
/-- a place outside sees all of the other net alike -/
theorem FillOk.far (h : FillOk pa pb ra rb p) {x q : Int} (hx : x ∈ riseF pa p pb) (hn : x ∉ pb) (hq : q ∈ pb) : colP (riseF pa p pb) (wR pa ra p pb rb) x q = colP pa ra x p := by
  rw [wcol hx (h.sub q hq) fun z => hn (z ▸ hq)]
  unfold shF
  rw [if_neg hn, if_pos hq]
theorem FillOk.near (h : FillOk pa pb ra rb p) {x q : Int} (hx : x ∈ pb) (hq : q ∈ pb) (hne : x ≠ q) : colP (riseF pa p pb) (wR pa ra p pb rb) x q = colP pb rb x q := by
  rw [wcol (h.sub x hx) (h.sub q hq) hne]
  unfold shF
  rw [if_pos hx, if_pos hq]
theorem getD0_memI {l : List Int} (h : l ≠ []) : l.getD 0 0 ∈ l := getD_memI (List.length_pos_iff.mpr h)
theorem FillOk.inP (h : FillOk pa pb ra rb p) {s : List Int} (hs : ∀ x ∈ s, x ∈ pb) : inP (riseF pa p pb) s = inP pb s := by
  refine lt_extI (inP_asc h.w s) (inP_asc h.wb s) fun x => ?_
  rw [inP_iff, inP_iff]
  exact ⟨fun z => ⟨hs x z.2, z.2⟩, fun z => ⟨h.sub x z.1, z.2⟩⟩
theorem inP_self {l : List Int} (s : List Int) (h : ∀ x ∈ l, x ∈ s) : inP l s = l := by
  unfold MW46.inP
  exact List.filter_eq_self.mpr fun x hx => decide_eq_true (h x hx)
/-- the groups within are the other net's -/
theorem FillOk.same (h : FillOk pa pb ra rb p) {s : List Int} (hs : ∀ x ∈ s, x ∈ pb) (hne : s ≠ []) : (tellPP (riseF pa p pb) (wR pa ra p pb rb) (MW46.inP (riseF pa p pb) s)).isNone = (tellPP pb rb (MW46.inP pb s)).isNone := by
  rw [h.inP hs]
  have ne := inP_ne hs hne
  have sb : ∀ x ∈ MW46.inP pb s, x ∈ pb := inP_sub
  generalize MW46.inP pb s = m at ne sb
  have m0 := getD0_memI ne
  rw [Bool.eq_iff_iff, Option.isNone_iff_eq_none, Option.isNone_iff_eq_none]
  constructor
  · intro t
    refine tellPP_none fun x hx hn q hq => ?_
    have := tellPP_alike t x (h.sub x hx) hn q hq
    rwa [h.near hx (sb q hq) fun z => hn (z ▸ hq), h.near hx (sb _ m0) fun z => hn (z ▸ m0)] at this
  · intro t
    refine tellPP_none fun x hx hn q hq => ?_
    by_cases hb : x ∈ pb
    · have := tellPP_alike t x hb hn q hq
      rwa [h.near hb (sb q hq) fun z => hn (z ▸ hq), h.near hb (sb _ m0) fun z => hn (z ▸ m0)]
    · rw [h.far hx hb (sb q hq), h.far hx hb (sb _ m0)]
theorem FillOk.group (h : FillOk pa pb ra rb p) : tellPP (riseF pa p pb) (wR pa ra p pb rb) (MW46.inP (riseF pa p pb) pb) = none := by
  rw [h.inP fun _ z => z, inP_self pb fun _ z => z]
  refine tellPP_none fun x hx hn q hq => ?_
  rw [h.far hx hn hq, h.far hx hn (getD0_memI h.ne)]
theorem FillOk.back (h : FillOk pa pb ra rb p) : netP (MW46.inP (riseF pa p pb) pb) (rowsOf (MW46.inP (riseF pa p pb) pb) (colP (riseF pa p pb) (wR pa ra p pb rb))) = netP pb rb := by
  rw [h.inP fun _ z => z, inP_self pb fun _ z => z]
  rw [rowsOf_congr (lt_nodupI h.wb) (S2 := colP pb rb) fun x hx y hy hne => h.near hx hy hne]
  rw [rowsOf_selfL h.RB (lt_nodupI h.wb)]
/-- the parting: single places, and the other net's -/
def partF (pa : List Int) (p : Int) (pb : List Int) : List (List Int) := ((outF pa p).map fun x => [x]) ++ [pb]
theorem flat_single : ∀ l : List Int, (l.map fun x => [x]).flatten = l
  | [] => rfl
  | a :: l => by simp [flat_single l]
theorem FillOk.part (h : FillOk pa pb ra rb p) : PartK (riseF pa p pb) (partF pa p pb) := by
  refine ⟨fun q hq => ?_, ?_⟩
  · rcases List.mem_append.mp hq with hq | hq
    · obtain ⟨x, _, rfl⟩ := List.mem_map.mp hq
      simp
    · rw [List.mem_singleton] at hq
      rw [hq]
      exact h.ne
  · unfold partF
    rw [List.flatten_append, flat_single]
    simp only [List.flatten_cons, List.flatten_nil, List.append_nil]
    exact (List.mergeSort_perm _ _).symm
theorem FillOk.groups (h : FillOk pa pb ra rb p) : ∀ ms ∈ partF pa p pb, tellPP (riseF pa p pb) (wR pa ra p pb rb) (MW46.inP (riseF pa p pb) ms) = none := by
  intro ms hm
  rcases List.mem_append.mp hm with hm | hm
  · obtain ⟨x, hx, rfl⟩ := List.mem_map.mp hm
    have hx1 := (h.out hx).1
    have e : MW46.inP (riseF pa p pb) [x] = [x] := by
      refine lt_extI (inP_asc h.w _) (List.pairwise_singleton _ _) fun z => ?_
      rw [inP_iff, List.mem_singleton]
      exact ⟨fun z => z.2, fun z => ⟨z ▸ hx1, z⟩⟩
    rw [e]
    refine tellPP_none fun y _ _ q hq => ?_
    rw [List.mem_singleton] at hq
    rw [hq]
    rfl
  · rw [List.mem_singleton] at hm
    rw [hm]
    exact h.group
theorem FillOk.heads (h : FillOk pa pb ra rb p) : hdsK (partF pa p pb) = riseF pa p [pb.getD 0 0] := by
  unfold hdsK riseF partF
  rw [List.map_append, List.map_map]
  have e1 : (outF pa p).map (minK ∘ fun x => [x]) = outF pa p := (List.map_congr_left fun _ _ => rfl).trans (List.map_id _)
  have e2 : minK pb = pb.getD 0 0 := by
    have hw := h.wb
    have hn := h.ne
    cases pb with
    | nil => exact absurd rfl hn
    | cons a r =>
      have : ∀ (r : List Int) (a : Int), (∀ y ∈ r, a < y) → r.foldl minI a = a := by
        intro r
        induction r with
        | nil => intro a _; rfl
        | cons b r ih =>
          intro a hy
          rw [List.foldl_cons, show minI a b = a by unfold minI; rw [if_neg (by have := hy b List.mem_cons_self; omega)]]
          exact ih a fun y hy2 => hy y (List.mem_cons_of_mem _ hy2)
      exact this r a (List.pairwise_cons.mp hw).1
  rw [e1, List.map_cons, List.map_nil, e2]
theorem FillOk.first (h : FillOk pa pb ra rb p) : netP (hdsK (partF pa p pb)) (rowsOf (hdsK (partF pa p pb)) (colP (riseF pa p pb) (wR pa ra p pb rb))) = netP (riseF pa p [pb.getD 0 0]) (rowsOf (riseF pa p [pb.getD 0 0]) (shF pa ra p [pb.getD 0 0] [[]])) := by
  have m0 := getD0_memI h.ne
  have nd : (riseF pa p [pb.getD 0 0]).Nodup := riseF_nd (lt_nodupI h.wa) (by simp) fun x hx hx2 => by
    rw [List.mem_singleton] at hx
    exact h.hd x (hx ▸ m0) hx2
  rw [h.heads]
  congr 1
  refine rowsOf_congr nd fun x hx y hy hne => ?_
  have mem : ∀ z, z ∈ riseF pa p [pb.getD 0 0] → (z ∈ outF pa p ∧ z ≠ pb.getD 0 0) ∨ z = pb.getD 0 0 := fun z hz => by
    rcases riseF_mem.mp hz with hz | hz
    · have := h.out (outF_mem.mpr hz)
      exact .inl ⟨outF_mem.mpr hz, fun e => this.2 (e ▸ m0)⟩
    · exact .inr (List.mem_singleton.mp hz)
  rcases mem x hx with ⟨x1, x2⟩ | x1 <;> rcases mem y hy with ⟨y1, y2⟩ | y1
  · rw [wcol (h.out x1).1 (h.out y1).1 hne]
    unfold shF
    rw [if_neg (h.out x1).2, if_neg (h.out y1).2, if_neg (by simpa using x2), if_neg (by simpa using y2)]
  · rw [y1, h.far (h.out x1).1 (h.out x1).2 m0]
    unfold shF
    rw [if_neg (by simpa using x2), if_pos (by simp)]
  · rw [x1, colP_sym, h.far (h.out y1).1 (h.out y1).2 m0, colP_sym]
    unfold shF
    rw [if_pos (by simp), if_neg (by simpa using y2)]
  · exact absurd (x1.trans y1.symm) hne
end
theorem enum_intsL {l : List Int} {j : Nat} {x : D} (h : (enumD (l.map D.int))[j]? = some x) : ∃ c : Int, x = .tup [.int (j : Nat), .int c] := by
  obtain ⟨v, hv, rfl⟩ := enumG_get h
  obtain ⟨c, _, rfl⟩ := map_get hv
  exact ⟨c, rfl⟩
theorem r2_isntT {Q : OD → Prop} (q : Q (.s (.bl false))) : R2 .isnt (.bl true) (.bl true) Q := r2_isnt q
set_option maxHeartbeats 4000000 in
theorem law_13 (d : Nat) : ∀ ns : List Int, ns.length ≤ 63 → evF T (d + 6 + 1) 111 [.s (.scr (ns.map .int))] = .ok (.s (.bl true)) := by
  intro ns hns
  obtain ⟨m0, hm0, hm⟩ := many22_at (d + 5) (cellAt ns 0)
  obtain ⟨v, v0, v1, hv⟩ := mix23_at (d + 4) ns 2 7
  obtain ⟨N, rfl⟩ : ∃ N : Nat, v = (N : Int) := ⟨v.toNat, by omega⟩
  have em : ((m0 : Int) + 1) = ((m0 + 1 : Nat) : Int) := by push_cast; rfl
  rw [em] at hm
  generalize hmm : m0 + 1 = m at hm
  refine ret_is (call_ok (F := F111) rfl rfl ?_)
  show WSs _ (MSs.cons _ _) [some (.s (.scr (ns.map .int))), none, none, none, none, none, none, none, none, none, none, none, none, none] _
  walk_at "gs"
  refine ⟨_, cell20_at _ ns 0, ?_⟩
  walk_at "gs"
  refine ⟨_, hm, ?_⟩
  walk_at "gs"
  refine ⟨_, cell20_at _ ns 1, ?_⟩
  walk_at "gs"
  have hw : 0 < minI 9 (25 - (m : Int)) ∧ minI 9 (25 - (m : Int)) ≤ 25 - (m : Int) := by unfold minI; split <;> omega
  generalize minI 9 (25 - (m : Int)) = w at hw
  refine r2_mod hw.1 ?_
  have w0 := Int.emod_nonneg (cellAt ns 1) (Int.ne_of_gt hw.1)
  have w1 := Int.emod_lt_of_pos (cellAt ns 1) hw.1
  generalize cellAt ns 1 % w = c at w0 w1
  walk_at "gs"
  with_reducible refine ws_ifJ (fun e => ∃ q : Nat, (1 ≤ q ∧ q + m ≤ 25) ∧ e = [some (.s (.scr (ns.map .int))), some (.s (.int (m : Int))), some (.s (.int (q : Int))), none, none, none, none, none, none, none, none, none, none, none]) ?_ ?_
  · walk_at "go"
    refine ⟨_, cell20_at _ ns 1, ?_⟩
    walk_at "go"
    · refine ⟨25 - m, ⟨by omega, by omega⟩, ?_⟩
      rw [show (25 : Int) - (m : Int) = ((25 - m : Nat) : Int) by omega]
    · obtain ⟨q, hq⟩ : ∃ q : Nat, 1 + c = (q : Int) := ⟨(1 + c).toNat, by omega⟩
      exact ⟨q, ⟨by omega, by omega⟩, by rw [hq]⟩
  rintro e ⟨q, ⟨q1, q2⟩, rfl⟩
  obtain ⟨pa, pb, ra, rb, p, W, h107⟩ := two107_at (d + 1) ns m q N (by omega) (by omega) q1 (by omega)
  have hF : FillOk pa pb ra rb p := ⟨W.ra, W.rb, W.wa, W.wb, W.hp, W.hd, fun z => by have := W.lb; rw [z] at this; simp at this; omega⟩
  have lo := outF_lenL W.hp
  have la := W.la
  have lb := W.lb
  have lw : (riseF pa p pb).length ≤ 100 := by rw [riseF_len]; omega
  have hWN : NetD (netP (riseF pa p pb) (wR pa ra p pb rb)) (riseF pa p pb) (wR pa ra p pb rb) := netP_N _ _
  have cW : (netP (riseF pa p pb) (wR pa ra p pb rb)).noC = true := netP_noC _ _
  refine ws_cons (ws_asgT ?_)
  walk_at "gs"
  refine ⟨_, hv, ?_⟩
  walk_at "gs"
  refine ⟨_, h107, ?_⟩
  walk_at "gs"
  refine ⟨_, rfl, ?_⟩
  walk_at "st"
  walk_at "gs"
  refine ⟨_, filled106_at d (netP_N pa ra) (netP_N pb rb) W.ra W.rb (netP_noC _ _) (netP_noC _ _) W.na W.nb W.hp W.hd (by omega) (by omega), ?_⟩
  rw [show rowsOf (riseF pa p pb) (shF pa ra p pb rb) = wR pa ra p pb rb from rfl]
  generalize hWD : netP (riseF pa p pb) (wR pa ra p pb rb) = WD at hWN cW
  walk_at "gs"
  have g1 := group64_at (d + 2) hWN hF.w wR_ok (by omega) hF.sub hF.ne
  rw [hF.group, Option.isNone_none] at g1
  have g2 := part42_at d hWN cW hF.w wR_ok lw hF.sub hF.ne
  rw [hF.back] at g2
  refine ws_if ?_
  walk_at "gs"
  unfold netP
  walk_at "gs"
  refine r1_rfl (p := .listOf) (d := .tup (pb.map D.int)) (od := .ol ((pb.map D.int).map .s)) rfl ?_
  walk_at "gs"
  refine ⟨_, g1, ?_⟩
  walk_at "gs"
  refine r2_isntT ?_
  walk_at "gs"
  refine r1_rfl (p := .listOf) (d := .tup (pb.map D.int)) (od := .ol ((pb.map D.int).map .s)) rfl ?_
  walk_at "gs"
  refine ⟨_, g2, ?_⟩
  walk_at "gs"
  refine ⟨_, likeJ_net (d + 2) (netP_N pb rb) (netP_N pb rb) (by omega) W.rb, ?_⟩
  walk_at "gs"
  with_reducible refine w_comp (wi_seq ?_)
  walk_at "gs"
  refine ⟨_, rfl, rfl, by rw [List.length_map]; exact le_size (by omega), pa.map fun x => if decide (x ≠ p) = true then some (lD [x]) else none, by rw [List.length_map, List.length_map], ?_, ?_⟩
  · intro j x u hx hu
    obtain ⟨v, hv, rfl⟩ := map_get hx
    rw [List.getElem?_map, hv] at hu
    have eo : (if decide (v ≠ p) = true then some (lD [v]) else none) = u := Option.some.inj hu
    refine ⟨_, rfl, wt_some ?_⟩
    walk_at "gs"
    · rename_i hm
      rw [if_pos (decide_eq_true hm)] at eo
      exact ⟨eo.symm, rfl, rfl⟩
    · rename_i hm
      rw [if_neg (by rw [decide_eq_true_eq]; exact hm)] at eo
      exact ⟨eo.symm, rfl, rfl⟩
  rw [filt_fm]
  walk_at "gs"
  refine r1_rfl (p := .listOf) (d := .tup (pb.map D.int)) (od := .ol ((pb.map D.int).map .s)) rfl ?_
  walk_at "gs"
  refine r2_addL (le_size (by have := List.length_filter_le (fun x => decide (x ≠ p)) pa; simp only [List.length_map, List.length_cons, List.length_nil]; omega)) ?_
  have eP : (pa.filter fun x => decide (x ≠ p)).map (fun x => lD [x]) ++ [D.lst (pb.map D.int)] = (partF pa p pb).map lD := by
    unfold partF outF
    rw [List.map_append, List.map_map]
    rfl
  rw [eP]
  walk_at "gs"
  have g3 := quotient98_at d hWN cW hF.w wR_ok lw hF.part hF.groups
  rw [hF.first] at g3
  have ho : pb.getD 0 0 ∈ pa → pb.getD 0 0 = p := fun z => W.hd _ (getD0_memI hF.ne) z
  have g4 := renamed110_at (o := pb.getD 0 0) (d + 4) (netP_N pa ra) W.ra W.na W.hp ho (by omega)
  refine ws_if ?_
  walk_at "gs"
  refine ⟨_, g3, ?_⟩
  walk_at "gs"
  refine r2_idxT (map_atI (List.length_pos_iff.mpr hF.ne)) ?_
  walk_at "gs"
  refine ⟨_, g4, ?_⟩
  walk_at "gs"
  have lr : (riseF pa p [pb.getD 0 0]).length ≤ 100 := by rw [riseF_len]; simp; omega
  refine ⟨_, likeJ_net (d + 2) (netP_N _ _) (netP_N _ _) (by omega) (rowsOf_ok _ _), ?_⟩
  walk_at "gs"
  with_reducible refine ws_for (wi_enum ?_)
  walk_at "gs"
  refine ⟨2, rfl, ?_⟩
  walk_at "gs"
  refine ⟨8, rfl, _, rfl, _, rfl, ?_⟩
  have hcut : ∃ cs : List Int, MW.cutD (ns.map D.int) (some 2) (some 8) = cs.map D.int ∧ cs.length ≤ 63 := by
    unfold MW.cutD
    rw [← List.map_drop, ← List.map_take]
    exact ⟨_, rfl, by rw [List.length_take, List.length_drop]; omega⟩
  obtain ⟨cs, ecs, hcs⟩ := hcut
  rw [ecs]
  walk_at "gs"
  refine r2_addL ?_ ?_
  · simp only [List.length_cons, List.length_nil, List.length_map]; exact le_size (by omega)
  have e4 : [D.int 9] ++ cs.map D.int = (9 :: cs).map D.int := rfl
  rw [e4]
  walk_at "gs"
  refine ⟨_, rfl, fun _ e => ∃ y8 y9 y10 y11 : Option OD, e = [some (.s (.scr (ns.map .int))), some (.s (.int (m : Int))), some (.s (.int (q : Int))), some (.s WD), some (.s (.lst ((partF pa p pb).map lD))), some (.s (.tup [.tup (pa.map D.int), .tup (ra.map rowD)])), some (.s (.int p)), some (.s (.tup [.tup (pb.map D.int), .tup (rb.map rowD)])), y8, y9, y10, y11, none, none], ⟨_, _, _, _, rfl⟩, ?_, ?_⟩
  rotate_left 1
  · rintro e ⟨y8, y9, y10, y11, rfl⟩
    walk_at "gs"
    rfl
  rintro j x e hj ⟨y8, y9, y10, y11, rfl⟩
  obtain ⟨c', rfl⟩ := enum_intsL hj
  refine ⟨_, rfl, ?_⟩
  walk_at "st"
  walk_at "gs"
  obtain ⟨M, hM⟩ : ∃ M : Nat, (c' * 48271 + (j : Int) * 16807) % 2147483647 = (M : Int) := ⟨((c' * 48271 + (j : Int) * 16807) % 2147483647).toNat, (Int.toNat_of_nonneg (Int.emod_nonneg _ (by decide))).symm⟩
  rw [hM]
  with_reducible refine w_comp (wi_rng ?_)
  walk_at "gs"
  let pr : Nat → Bool := fun j => decide (M / 2 ^ (j % 20) % 2 = 1) || decide (j = M % q)
  refine ⟨q, rfl, by omega, rfl, le_size (by rw [rngD_len]; omega), (List.range q).map fun j => if pr j = true then some (D.int (pb.getD j 0)) else none, by rw [List.length_map, rngD_len, List.length_range], ?_, ?_⟩
  · intro i x u hx hu
    obtain ⟨hi, rfl⟩ := rngD_get hx
    rw [List.getElem?_map, List.getElem?_range hi] at hu
    have eo : (if pr i = true then some (D.int (pb.getD i 0)) else none) = u := Option.some.inj hu
    refine ⟨_, rfl, wt_some ?_⟩
    have e20 : (i : Int) % 20 = ((i % 20 : Nat) : Int) := rfl
    walk_at "gs"
    refine r2_shr e20 ?_
    have ep : (M : Int) / 2 ^ (i % 20) = ((M / 2 ^ (i % 20) : Nat) : Int) := by push_cast; rfl
    rw [ep]
    walk_at "gs"
    · rename_i h1
      have hp1 : pr i = true := by
        show (decide _ || decide _) = true
        rw [Bool.or_eq_true, decide_eq_true_eq]
        exact .inl (by omega)
      rw [if_pos hp1] at eo
      refine r2_idxT (map_atI (by omega)) ?_
      walk_at "gs"
      exact ⟨eo.symm, rfl, rfl⟩
    · rename_i h1
      walk_at "gs"
      · rename_i h2
        have hp1 : pr i = true := by
          show (decide _ || decide _) = true
          rw [Bool.or_eq_true, decide_eq_true_eq, decide_eq_true_eq]
          exact .inr (by exact_mod_cast h2)
        rw [if_pos hp1] at eo
        refine r2_idxT (map_atI (by omega)) ?_
        walk_at "gs"
        exact ⟨eo.symm, rfl, rfl⟩
      · rename_i h2
        have hp1 : ¬ pr i = true := by
          show ¬ (decide _ || decide _) = true
          rw [Bool.or_eq_true, decide_eq_true_eq, decide_eq_true_eq]
          rintro (z | z)
          · exact h1 (by omega)
          · exact h2 (by exact_mod_cast z)
        rw [if_neg hp1] at eo
        exact ⟨eo.symm, rfl, rfl⟩
  rw [filt_fm]
  walk_at "gs"
  have eS : ((List.range q).filter pr).map (fun j => D.int (pb.getD j 0)) = (img pb ((List.range q).filter pr)).map D.int := by unfold img; rw [List.map_map]; rfl
  rw [eS]
  have hs : ∀ x ∈ img pb ((List.range q).filter pr), x ∈ pb := fun x hx => by
    obtain ⟨k, hk, rfl⟩ := List.mem_map.mp hx
    exact getD_memI (by have := List.mem_range.mp (List.mem_filter.mp hk).1; omega)
  have hne : img pb ((List.range q).filter pr) ≠ [] := by
    have : M % q ∈ (List.range q).filter pr := List.mem_filter.mpr ⟨List.mem_range.mpr (Nat.mod_lt _ (by omega)), by show (decide _ || decide _) = true; simp⟩
    exact List.ne_nil_of_mem (List.mem_map.mpr ⟨_, this, rfl⟩)
  have k1 := group64_at (d + 2) hWN hF.w wR_ok (by omega) (fun x hx => hF.sub x (hs x hx)) hne
  have k2 := group64_at (d + 2) (netP_N pb rb) W.wb W.rb (by omega) hs hne
  rw [hF.same hs hne] at k1
  walk_at "go"
  refine ⟨_, k1, ?_⟩
  walk_at "go"
  refine ⟨_, k2, ?_⟩
  walk_at "go"
  refine ⟨_, likeL_bl _ _, ?_⟩
  walk_at "go"
  exact ⟨_, _, _, _, rfl⟩
def top (i : Nat) : Stmt := PySem.Challenge.pw_modulewood_k13_filled_back.main.body.getD i (.Pass ⟨0, 0, 0, 0⟩)
def fnl : List (Nat × Str) := [(37, ("set_of" : Str)), (16, ("place_at" : Str)), (17, ("ends_of" : Str)), (18, ("net_by" : Str)), (38, ("colour" : Str)), (57, ("shades_by" : Str)), (42, ("part_of" : Str)), (58, ("told_apart" : Str)), (59, ("teller_by" : Str)), (63, ("teller" : Str)), (64, ("is_group" : Str)), (97, ("is_parting" : Str)), (98, ("quotient" : Str)), (106, ("filled" : Str)), (20, ("_law_cell" : Str)), (21, ("_law_like" : Str)), (22, ("_law_many" : Str)), (23, ("_law_mix" : Str)), (31, ("_law_places" : Str)), (43, ("_law_shade" : Str)), (44, ("_law_net" : Str)), (107, ("_law_two" : Str)), (46, ("_law_dict" : Str)), (110, ("_law_renamed" : Str)), (111, ("law" : Str))]
def gcl : List (Str × D) := [("MOST", (.int 24))]
def cll : List (Nat × Str) := [(0, "NetError"), (1, "NoNet"), (2, "NoPlace"), (3, "SamePlace"), (5, "Taken"), (7, "NoSet"), (8, "NoParting"), (9, "NoGroup")]
def hll : List (Nat × Str) := []
def wdl : List (Nat × (Str × List (Str × Str))) := []
def fn0 : Nm := { f := fun f => fnl.lookup f, g := fun x => gcl.lookup x, c := fun k => cll.lookup k, h := fun j x => hll.contains (j, x), w := fun f => wdl.lookup f }
def cdl : List (Nat × CloD) := [(404, ⟨"part_of.<locals>.<lambda>", "<lambda>", ["one", "other"], ["net"], ["one", "other", "net"]⟩), (405, ⟨"quotient.<locals>.<lambda>", "<lambda>", ["one", "other"], ["net"], ["one", "other", "net"]⟩), (406, ⟨"filled.<locals>.shade_of", "shade_of", ["one", "other"], ["net", "inner", "place"], ["one", "other", "net", "inner", "place"]⟩)]
abbrev fnm : Nm := mkFn fn0 (fun g => cdl.lookup g) T
abbrev N37 : List Str := ["places", "some", "place"]
abbrev S37 : Stmt := top 10
theorem sc37 : FnScope N37 ["places", "some"] (defScope S37) := ⟨rfl, rfl, rfl, by decide +kernel, rfl, by decide +kernel, by decide +kernel⟩
theorem m37 : mSs fnm N37 (defScope S37) F37.body (defBody S37) = true := by decide +kernel
abbrev N16 : List Str := ["places", "place", "k", "one"]
abbrev S16 : Stmt := top 13
theorem sc16 : FnScope N16 ["places", "place"] (defScope S16) := ⟨rfl, rfl, rfl, by decide +kernel, rfl, by decide +kernel, by decide +kernel⟩
theorem m16 : mSs fnm N16 (defScope S16) F16.body (defBody S16) = true := by decide +kernel
abbrev N17 : List Str := ["places", "one", "other", "first", "second"]
abbrev S17 : Stmt := top 14
theorem sc17 : FnScope N17 ["places", "one", "other"] (defScope S17) := ⟨rfl, rfl, rfl, by decide +kernel, rfl, by decide +kernel, by decide +kernel⟩
theorem m17 : mSs fnm N17 (defScope S17) F17.body (defBody S17) = true := by decide +kernel
abbrev N18 : List Str := ["places", "shade", "rows", "k", "place", "other"]
abbrev S18 : Stmt := top 15
theorem sc18 : FnScope N18 ["places", "shade"] (defScope S18) := ⟨rfl, rfl, rfl, by decide +kernel, rfl, by decide +kernel, by decide +kernel⟩
theorem m18 : mSs fnm N18 (defScope S18) F18.body (defBody S18) = true := by decide +kernel
abbrev N38 : List Str := ["net", "one", "other", "ends"]
abbrev S38 : Stmt := top 16
theorem sc38 : FnScope N38 ["net", "one", "other"] (defScope S38) := ⟨rfl, rfl, rfl, by decide +kernel, rfl, by decide +kernel, by decide +kernel⟩
theorem m38 : mSs fnm N38 (defScope S38) F38.body (defBody S38) = true := by decide +kernel
abbrev N57 : List Str := ["net", "by", "k", "place", "other", "shade"]
abbrev S57 : Stmt := top 17
theorem sc57 : FnScope N57 ["net"] (defScope S57) := ⟨rfl, rfl, rfl, by decide +kernel, rfl, by decide +kernel, by decide +kernel⟩
theorem m57 : mSs fnm N57 (defScope S57) F57.body (defBody S57) = true := by decide +kernel
abbrev N42 : List Str := ["net", "some", "part_of.<locals>.<lambda>"]
abbrev S42 : Stmt := top 18
theorem sc42 : FnScope N42 ["net", "some"] (defScope S42) := ⟨rfl, rfl, rfl, by decide +kernel, rfl, by decide +kernel, by decide +kernel⟩
theorem m42 : mSs fnm N42 (defScope S42) F42.body (defBody S42) = true := by decide +kernel
abbrev N58 : List Str := ["shades", "members", "other"]
abbrev S58 : Stmt := top 20
theorem sc58 : FnScope N58 ["shades", "members"] (defScope S58) := ⟨rfl, rfl, rfl, by decide +kernel, rfl, by decide +kernel, by decide +kernel⟩
theorem m58 : mSs fnm N58 (defScope S58) F58.body (defBody S58) = true := by decide +kernel
abbrev N59 : List Str := ["by", "members", "place", "other"]
abbrev S59 : Stmt := top 21
theorem sc59 : FnScope N59 ["by", "members"] (defScope S59) := ⟨rfl, rfl, rfl, by decide +kernel, rfl, by decide +kernel, by decide +kernel⟩
theorem m59 : mSs fnm N59 (defScope S59) F59.body (defBody S59) = true := by decide +kernel
abbrev N63 : List Str := ["net", "some"]
abbrev S63 : Stmt := top 22
theorem sc63 : FnScope N63 ["net", "some"] (defScope S63) := ⟨rfl, rfl, rfl, by decide +kernel, rfl, by decide +kernel, by decide +kernel⟩
theorem m63 : mSs fnm N63 (defScope S63) F63.body (defBody S63) = true := by decide +kernel
abbrev N64 : List Str := ["net", "some"]
abbrev S64 : Stmt := top 23
theorem sc64 : FnScope N64 ["net", "some"] (defScope S64) := ⟨rfl, rfl, rfl, by decide +kernel, rfl, by decide +kernel, by decide +kernel⟩
theorem m64 : mSs fnm N64 (defScope S64) F64.body (defBody S64) = true := by decide +kernel
abbrev N97 : List Str := ["places", "parts", "row", "part"]
abbrev S97 : Stmt := top 25
theorem sc97 : FnScope N97 ["places", "parts"] (defScope S97) := ⟨rfl, rfl, rfl, by decide +kernel, rfl, by decide +kernel, by decide +kernel⟩
theorem m97 : mSs fnm N97 (defScope S97) F97.body (defBody S97) = true := by decide +kernel
abbrev N98 : List Str := ["net", "parts", "part", "quotient.<locals>.<lambda>"]
abbrev S98 : Stmt := top 26
theorem sc98 : FnScope N98 ["net", "parts"] (defScope S98) := ⟨rfl, rfl, rfl, by decide +kernel, rfl, by decide +kernel, by decide +kernel⟩
theorem m98 : mSs fnm N98 (defScope S98) F98.body (defBody S98) = true := by decide +kernel
abbrev N106 : List Str := ["net", "place", "inner", "shade_of", "outer", "one", "filled.<locals>.shade_of"]
abbrev S106 : Stmt := top 27
theorem sc106 : FnScope N106 ["net", "place", "inner"] (defScope S106) := ⟨rfl, rfl, rfl, by decide +kernel, rfl, by decide +kernel, by decide +kernel⟩
theorem m106 : mSs fnm N106 (defScope S106) F106.body (defBody S106) = true := by decide +kernel
abbrev N20 : List Str := ["_law_script", "_law_k"]
abbrev S20 : Stmt := top 29
theorem sc20 : FnScope N20 ["_law_script", "_law_k"] (defScope S20) := ⟨rfl, rfl, rfl, by decide +kernel, rfl, by decide +kernel, by decide +kernel⟩
theorem m20 : mSs fnm N20 (defScope S20) F20.body (defBody S20) = true := by decide +kernel
abbrev N21 : List Str := ["_law_found", "_law_due", "_law_k"]
abbrev S21 : Stmt := top 30
theorem sc21 : FnScope N21 ["_law_found", "_law_due"] (defScope S21) := ⟨rfl, rfl, rfl, by decide +kernel, rfl, by decide +kernel, by decide +kernel⟩
theorem m21 : mSs fnm N21 (defScope S21) F21.body (defBody S21) = true := by decide +kernel
abbrev N22 : List Str := ["_law_cell_here"]
abbrev S22 : Stmt := top 31
theorem sc22 : FnScope N22 ["_law_cell_here"] (defScope S22) := ⟨rfl, rfl, rfl, by decide +kernel, rfl, by decide +kernel, by decide +kernel⟩
theorem m22 : mSs fnm N22 (defScope S22) F22.body (defBody S22) = true := by decide +kernel
abbrev N23 : List Str := ["_law_script", "_law_at", "_law_k", "_law_many_here"]
abbrev S23 : Stmt := top 32
theorem sc23 : FnScope N23 ["_law_script", "_law_at", "_law_k"] (defScope S23) := ⟨rfl, rfl, rfl, by decide +kernel, rfl, by decide +kernel, by decide +kernel⟩
theorem m23 : mSs fnm N23 (defScope S23) F23.body (defBody S23) = true := by decide +kernel
abbrev N31 : List Str := ["_law_script", "_law_at", "_law_many_here", "_law_head", "_law_step", "_law_number", "_law_places_here", "_law_k"]
abbrev S31 : Stmt := top 33
theorem sc31 : FnScope N31 ["_law_script", "_law_at", "_law_many_here"] (defScope S31) := ⟨rfl, rfl, rfl, by decide +kernel, rfl, by decide +kernel, by decide +kernel⟩
theorem m31 : mSs fnm N31 (defScope S31) F31.body (defBody S31) = true := by decide +kernel
abbrev N43 : List Str := ["_law_script", "_law_at", "_law_k", "_law_j", "_law_head", "_law_blocks", "_law_one", "_law_other", "_law_number", "_law_shades"]
abbrev S43 : Stmt := top 34
theorem sc43 : FnScope N43 ["_law_script", "_law_at", "_law_k", "_law_j"] (defScope S43) := ⟨rfl, rfl, rfl, by decide +kernel, rfl, by decide +kernel, by decide +kernel⟩
theorem m43 : mSs fnm N43 (defScope S43) F43.body (defBody S43) = true := by decide +kernel
abbrev N44 : List Str := ["_law_script", "_law_at", "_law_many_here", "_law_rows", "_law_k", "_law_j"]
abbrev S44 : Stmt := top 35
theorem sc44 : FnScope N44 ["_law_script", "_law_at", "_law_many_here"] (defScope S44) := ⟨rfl, rfl, rfl, by decide +kernel, rfl, by decide +kernel, by decide +kernel⟩
theorem m44 : mSs fnm N44 (defScope S44) F44.body (defBody S44) = true := by decide +kernel
abbrev N107 : List Str := ["_law_script", "_law_many_here", "_law_more", "_law_number", "_law_net_here", "_law_inner", "_law_places_here", "_law_place"]
abbrev S107 : Stmt := top 36
theorem sc107 : FnScope N107 ["_law_script", "_law_many_here", "_law_more", "_law_number"] (defScope S107) := ⟨rfl, rfl, rfl, by decide +kernel, rfl, by decide +kernel, by decide +kernel⟩
theorem m107 : mSs fnm N107 (defScope S107) F107.body (defBody S107) = true := by decide +kernel
abbrev N46 : List Str := ["_law_net_here", "_law_shades", "_law_k", "_law_one", "_law_j"]
abbrev S46 : Stmt := top 37
theorem sc46 : FnScope N46 ["_law_net_here"] (defScope S46) := ⟨rfl, rfl, rfl, by decide +kernel, rfl, by decide +kernel, by decide +kernel⟩
theorem m46 : mSs fnm N46 (defScope S46) F46.body (defBody S46) = true := by decide +kernel
abbrev N110 : List Str := ["_law_net_here", "_law_place", "_law_other", "_law_shades", "_law_rising", "_law_rows", "_law_k", "_law_one", "_law_row", "_law_two_here"]
abbrev S110 : Stmt := top 38
theorem sc110 : FnScope N110 ["_law_net_here", "_law_place", "_law_other"] (defScope S110) := ⟨rfl, rfl, rfl, by decide +kernel, rfl, by decide +kernel, by decide +kernel⟩
theorem m110 : mSs fnm N110 (defScope S110) F110.body (defBody S110) = true := by decide +kernel
abbrev N111 : List Str := ["_law_script", "_law_many_here", "_law_more", "_law_whole", "_law_parts", "_law_net_here", "_law_place", "_law_inner", "_law_k", "_law_cell_here", "_law_number", "_law_some", "_law_one", "_law_j"]
abbrev S111 : Stmt := top 39
theorem sc111 : FnScope N111 ["_law_script"] (defScope S111) := ⟨rfl, rfl, rfl, by decide +kernel, rfl, by decide +kernel, by decide +kernel⟩
theorem m111 : mSs fnm N111 (defScope S111) F111.body (defBody S111) = true := by decide +kernel
theorem lookup_mem {α β : Type} [BEq α] [LawfulBEq α] : ∀ {l : List (α × β)} {a : α} {b : β}, l.lookup a = some b → (a, b) ∈ l
  | [], _, _, h => by cases h
  | (c, y) :: l, a, b, h => by
    rw [List.lookup_cons] at h
    by_cases e : a = c
    · subst e
      simp only [beq_self_eq_true] at h
      cases h
      exact List.mem_cons_self
    · rw [beq_eq_false_iff_ne.mpr e] at h
      exact List.mem_cons_of_mem _ (lookup_mem h)
def np (f : Nat) : Nat := match T f with
  | some F => F.np
  | none => 0
set_option maxHeartbeats 0 in
theorem all_mk {w : World} {K : PySem.W.Frag} {h : Heap} {mg : Str → Option Value} {fa g37 g16 g17 g18 g38 g57 g42 g58 g59 g63 g64 g97 g98 g106 g20 g21 g22 g23 g31 g43 g44 g107 g46 g110 g111 : Addr} (X : K.In h) (G : h.Ns mainGlobals mg) (hfa : mg "law" = some (.ref fa))
  {od37 an37 : Option Addr} {sl37 : Array (Option Value)} {oc37 kV37 dc37 pm37 cd37 ct37 : Value} (a37 : PySem.W.nsIn K mainGlobals "set_of" = some (some (.ref g37)))
  (l37 : K.lookup g37 = some ⟨oc37, od37, .func (PySem.W.fnOf "set_of" "set_of" (defArgs S37) (defBody S37) (defScope S37) .none kV37 dc37 pm37 an37 cd37 ct37), sl37⟩) (c37 : PySem.W.codeIn K cd37 "set_of" = true) (k37 : PySem.W.keepIn K (.ref g37) = true)
  {od16 an16 : Option Addr} {sl16 : Array (Option Value)} {oc16 kV16 dc16 pm16 cd16 ct16 : Value} (a16 : PySem.W.nsIn K mainGlobals "place_at" = some (some (.ref g16)))
  (l16 : K.lookup g16 = some ⟨oc16, od16, .func (PySem.W.fnOf "place_at" "place_at" (defArgs S16) (defBody S16) (defScope S16) .none kV16 dc16 pm16 an16 cd16 ct16), sl16⟩) (c16 : PySem.W.codeIn K cd16 "place_at" = true) (k16 : PySem.W.keepIn K (.ref g16) = true)
  {od17 an17 : Option Addr} {sl17 : Array (Option Value)} {oc17 kV17 dc17 pm17 cd17 ct17 : Value} (a17 : PySem.W.nsIn K mainGlobals "ends_of" = some (some (.ref g17)))
  (l17 : K.lookup g17 = some ⟨oc17, od17, .func (PySem.W.fnOf "ends_of" "ends_of" (defArgs S17) (defBody S17) (defScope S17) .none kV17 dc17 pm17 an17 cd17 ct17), sl17⟩) (c17 : PySem.W.codeIn K cd17 "ends_of" = true) (k17 : PySem.W.keepIn K (.ref g17) = true)
  {od18 an18 : Option Addr} {sl18 : Array (Option Value)} {oc18 kV18 dc18 pm18 cd18 ct18 : Value} (a18 : PySem.W.nsIn K mainGlobals "net_by" = some (some (.ref g18)))
  (l18 : K.lookup g18 = some ⟨oc18, od18, .func (PySem.W.fnOf "net_by" "net_by" (defArgs S18) (defBody S18) (defScope S18) .none kV18 dc18 pm18 an18 cd18 ct18), sl18⟩) (c18 : PySem.W.codeIn K cd18 "net_by" = true) (k18 : PySem.W.keepIn K (.ref g18) = true)
  {od38 an38 : Option Addr} {sl38 : Array (Option Value)} {oc38 kV38 dc38 pm38 cd38 ct38 : Value} (a38 : PySem.W.nsIn K mainGlobals "colour" = some (some (.ref g38)))
  (l38 : K.lookup g38 = some ⟨oc38, od38, .func (PySem.W.fnOf "colour" "colour" (defArgs S38) (defBody S38) (defScope S38) .none kV38 dc38 pm38 an38 cd38 ct38), sl38⟩) (c38 : PySem.W.codeIn K cd38 "colour" = true) (k38 : PySem.W.keepIn K (.ref g38) = true)
  {od57 an57 : Option Addr} {sl57 : Array (Option Value)} {oc57 kV57 dc57 pm57 cd57 ct57 : Value} (a57 : PySem.W.nsIn K mainGlobals "shades_by" = some (some (.ref g57)))
  (l57 : K.lookup g57 = some ⟨oc57, od57, .func (PySem.W.fnOf "shades_by" "shades_by" (defArgs S57) (defBody S57) (defScope S57) .none kV57 dc57 pm57 an57 cd57 ct57), sl57⟩) (c57 : PySem.W.codeIn K cd57 "shades_by" = true) (k57 : PySem.W.keepIn K (.ref g57) = true)
  {od42 an42 : Option Addr} {sl42 : Array (Option Value)} {oc42 kV42 dc42 pm42 cd42 ct42 : Value} (a42 : PySem.W.nsIn K mainGlobals "part_of" = some (some (.ref g42)))
  (l42 : K.lookup g42 = some ⟨oc42, od42, .func (PySem.W.fnOf "part_of" "part_of" (defArgs S42) (defBody S42) (defScope S42) .none kV42 dc42 pm42 an42 cd42 ct42), sl42⟩) (c42 : PySem.W.codeIn K cd42 "part_of" = true) (k42 : PySem.W.keepIn K (.ref g42) = true)
  {od58 an58 : Option Addr} {sl58 : Array (Option Value)} {oc58 kV58 dc58 pm58 cd58 ct58 : Value} (a58 : PySem.W.nsIn K mainGlobals "told_apart" = some (some (.ref g58)))
  (l58 : K.lookup g58 = some ⟨oc58, od58, .func (PySem.W.fnOf "told_apart" "told_apart" (defArgs S58) (defBody S58) (defScope S58) .none kV58 dc58 pm58 an58 cd58 ct58), sl58⟩) (c58 : PySem.W.codeIn K cd58 "told_apart" = true) (k58 : PySem.W.keepIn K (.ref g58) = true)
  {od59 an59 : Option Addr} {sl59 : Array (Option Value)} {oc59 kV59 dc59 pm59 cd59 ct59 : Value} (a59 : PySem.W.nsIn K mainGlobals "teller_by" = some (some (.ref g59)))
  (l59 : K.lookup g59 = some ⟨oc59, od59, .func (PySem.W.fnOf "teller_by" "teller_by" (defArgs S59) (defBody S59) (defScope S59) .none kV59 dc59 pm59 an59 cd59 ct59), sl59⟩) (c59 : PySem.W.codeIn K cd59 "teller_by" = true) (k59 : PySem.W.keepIn K (.ref g59) = true)
  {od63 an63 : Option Addr} {sl63 : Array (Option Value)} {oc63 kV63 dc63 pm63 cd63 ct63 : Value} (a63 : PySem.W.nsIn K mainGlobals "teller" = some (some (.ref g63)))
  (l63 : K.lookup g63 = some ⟨oc63, od63, .func (PySem.W.fnOf "teller" "teller" (defArgs S63) (defBody S63) (defScope S63) .none kV63 dc63 pm63 an63 cd63 ct63), sl63⟩) (c63 : PySem.W.codeIn K cd63 "teller" = true) (k63 : PySem.W.keepIn K (.ref g63) = true)
  {od64 an64 : Option Addr} {sl64 : Array (Option Value)} {oc64 kV64 dc64 pm64 cd64 ct64 : Value} (a64 : PySem.W.nsIn K mainGlobals "is_group" = some (some (.ref g64)))
  (l64 : K.lookup g64 = some ⟨oc64, od64, .func (PySem.W.fnOf "is_group" "is_group" (defArgs S64) (defBody S64) (defScope S64) .none kV64 dc64 pm64 an64 cd64 ct64), sl64⟩) (c64 : PySem.W.codeIn K cd64 "is_group" = true) (k64 : PySem.W.keepIn K (.ref g64) = true)
  {od97 an97 : Option Addr} {sl97 : Array (Option Value)} {oc97 kV97 dc97 pm97 cd97 ct97 : Value} (a97 : PySem.W.nsIn K mainGlobals "is_parting" = some (some (.ref g97)))
  (l97 : K.lookup g97 = some ⟨oc97, od97, .func (PySem.W.fnOf "is_parting" "is_parting" (defArgs S97) (defBody S97) (defScope S97) .none kV97 dc97 pm97 an97 cd97 ct97), sl97⟩) (c97 : PySem.W.codeIn K cd97 "is_parting" = true) (k97 : PySem.W.keepIn K (.ref g97) = true)
  {od98 an98 : Option Addr} {sl98 : Array (Option Value)} {oc98 kV98 dc98 pm98 cd98 ct98 : Value} (a98 : PySem.W.nsIn K mainGlobals "quotient" = some (some (.ref g98)))
  (l98 : K.lookup g98 = some ⟨oc98, od98, .func (PySem.W.fnOf "quotient" "quotient" (defArgs S98) (defBody S98) (defScope S98) .none kV98 dc98 pm98 an98 cd98 ct98), sl98⟩) (c98 : PySem.W.codeIn K cd98 "quotient" = true) (k98 : PySem.W.keepIn K (.ref g98) = true)
  {od106 an106 : Option Addr} {sl106 : Array (Option Value)} {oc106 kV106 dc106 pm106 cd106 ct106 : Value} (a106 : PySem.W.nsIn K mainGlobals "filled" = some (some (.ref g106)))
  (l106 : K.lookup g106 = some ⟨oc106, od106, .func (PySem.W.fnOf "filled" "filled" (defArgs S106) (defBody S106) (defScope S106) .none kV106 dc106 pm106 an106 cd106 ct106), sl106⟩) (c106 : PySem.W.codeIn K cd106 "filled" = true) (k106 : PySem.W.keepIn K (.ref g106) = true)
  {od20 an20 : Option Addr} {sl20 : Array (Option Value)} {oc20 kV20 dc20 pm20 cd20 ct20 : Value} (a20 : PySem.W.nsIn K mainGlobals "_law_cell" = some (some (.ref g20)))
  (l20 : K.lookup g20 = some ⟨oc20, od20, .func (PySem.W.fnOf "_law_cell" "_law_cell" (defArgs S20) (defBody S20) (defScope S20) .none kV20 dc20 pm20 an20 cd20 ct20), sl20⟩) (c20 : PySem.W.codeIn K cd20 "_law_cell" = true) (k20 : PySem.W.keepIn K (.ref g20) = true)
  {od21 an21 : Option Addr} {sl21 : Array (Option Value)} {oc21 kV21 dc21 pm21 cd21 ct21 : Value} (a21 : PySem.W.nsIn K mainGlobals "_law_like" = some (some (.ref g21)))
  (l21 : K.lookup g21 = some ⟨oc21, od21, .func (PySem.W.fnOf "_law_like" "_law_like" (defArgs S21) (defBody S21) (defScope S21) .none kV21 dc21 pm21 an21 cd21 ct21), sl21⟩) (c21 : PySem.W.codeIn K cd21 "_law_like" = true) (k21 : PySem.W.keepIn K (.ref g21) = true)
  {od22 an22 : Option Addr} {sl22 : Array (Option Value)} {oc22 kV22 dc22 pm22 cd22 ct22 : Value} (a22 : PySem.W.nsIn K mainGlobals "_law_many" = some (some (.ref g22)))
  (l22 : K.lookup g22 = some ⟨oc22, od22, .func (PySem.W.fnOf "_law_many" "_law_many" (defArgs S22) (defBody S22) (defScope S22) .none kV22 dc22 pm22 an22 cd22 ct22), sl22⟩) (c22 : PySem.W.codeIn K cd22 "_law_many" = true) (k22 : PySem.W.keepIn K (.ref g22) = true)
  {od23 an23 : Option Addr} {sl23 : Array (Option Value)} {oc23 kV23 dc23 pm23 cd23 ct23 : Value} (a23 : PySem.W.nsIn K mainGlobals "_law_mix" = some (some (.ref g23)))
  (l23 : K.lookup g23 = some ⟨oc23, od23, .func (PySem.W.fnOf "_law_mix" "_law_mix" (defArgs S23) (defBody S23) (defScope S23) .none kV23 dc23 pm23 an23 cd23 ct23), sl23⟩) (c23 : PySem.W.codeIn K cd23 "_law_mix" = true) (k23 : PySem.W.keepIn K (.ref g23) = true)
  {od31 an31 : Option Addr} {sl31 : Array (Option Value)} {oc31 kV31 dc31 pm31 cd31 ct31 : Value} (a31 : PySem.W.nsIn K mainGlobals "_law_places" = some (some (.ref g31)))
  (l31 : K.lookup g31 = some ⟨oc31, od31, .func (PySem.W.fnOf "_law_places" "_law_places" (defArgs S31) (defBody S31) (defScope S31) .none kV31 dc31 pm31 an31 cd31 ct31), sl31⟩) (c31 : PySem.W.codeIn K cd31 "_law_places" = true) (k31 : PySem.W.keepIn K (.ref g31) = true)
  {od43 an43 : Option Addr} {sl43 : Array (Option Value)} {oc43 kV43 dc43 pm43 cd43 ct43 : Value} (a43 : PySem.W.nsIn K mainGlobals "_law_shade" = some (some (.ref g43)))
  (l43 : K.lookup g43 = some ⟨oc43, od43, .func (PySem.W.fnOf "_law_shade" "_law_shade" (defArgs S43) (defBody S43) (defScope S43) .none kV43 dc43 pm43 an43 cd43 ct43), sl43⟩) (c43 : PySem.W.codeIn K cd43 "_law_shade" = true) (k43 : PySem.W.keepIn K (.ref g43) = true)
  {od44 an44 : Option Addr} {sl44 : Array (Option Value)} {oc44 kV44 dc44 pm44 cd44 ct44 : Value} (a44 : PySem.W.nsIn K mainGlobals "_law_net" = some (some (.ref g44)))
  (l44 : K.lookup g44 = some ⟨oc44, od44, .func (PySem.W.fnOf "_law_net" "_law_net" (defArgs S44) (defBody S44) (defScope S44) .none kV44 dc44 pm44 an44 cd44 ct44), sl44⟩) (c44 : PySem.W.codeIn K cd44 "_law_net" = true) (k44 : PySem.W.keepIn K (.ref g44) = true)
  {od107 an107 : Option Addr} {sl107 : Array (Option Value)} {oc107 kV107 dc107 pm107 cd107 ct107 : Value} (a107 : PySem.W.nsIn K mainGlobals "_law_two" = some (some (.ref g107)))
  (l107 : K.lookup g107 = some ⟨oc107, od107, .func (PySem.W.fnOf "_law_two" "_law_two" (defArgs S107) (defBody S107) (defScope S107) .none kV107 dc107 pm107 an107 cd107 ct107), sl107⟩) (c107 : PySem.W.codeIn K cd107 "_law_two" = true) (k107 : PySem.W.keepIn K (.ref g107) = true)
  {od46 an46 : Option Addr} {sl46 : Array (Option Value)} {oc46 kV46 dc46 pm46 cd46 ct46 : Value} (a46 : PySem.W.nsIn K mainGlobals "_law_dict" = some (some (.ref g46)))
  (l46 : K.lookup g46 = some ⟨oc46, od46, .func (PySem.W.fnOf "_law_dict" "_law_dict" (defArgs S46) (defBody S46) (defScope S46) .none kV46 dc46 pm46 an46 cd46 ct46), sl46⟩) (c46 : PySem.W.codeIn K cd46 "_law_dict" = true) (k46 : PySem.W.keepIn K (.ref g46) = true)
  {od110 an110 : Option Addr} {sl110 : Array (Option Value)} {oc110 kV110 dc110 pm110 cd110 ct110 : Value} (a110 : PySem.W.nsIn K mainGlobals "_law_renamed" = some (some (.ref g110)))
  (l110 : K.lookup g110 = some ⟨oc110, od110, .func (PySem.W.fnOf "_law_renamed" "_law_renamed" (defArgs S110) (defBody S110) (defScope S110) .none kV110 dc110 pm110 an110 cd110 ct110), sl110⟩) (c110 : PySem.W.codeIn K cd110 "_law_renamed" = true) (k110 : PySem.W.keepIn K (.ref g110) = true)
  {od111 an111 : Option Addr} {sl111 : Array (Option Value)} {oc111 kV111 dc111 pm111 cd111 ct111 : Value} (a111 : PySem.W.nsIn K mainGlobals "law" = some (some (.ref g111)))
  (l111 : K.lookup g111 = some ⟨oc111, od111, .func (PySem.W.fnOf "law" "law" (defArgs S111) (defBody S111) (defScope S111) .none kV111 dc111 pm111 an111 cd111 ct111), sl111⟩) (c111 : PySem.W.codeIn K cd111 "law" = true) (k111 : PySem.W.keepIn K (.ref g111) = true)
  {tu0 : Tok} (u0 : PySem.W.nsIn K mainGlobals "MOST" = some (some (.int 24 tu0)))
  {C0 : Addr} (v0 : PySem.W.nsIn K mainGlobals "NetError" = some (some (.ref C0))) (x0 : PySem.W.excIn K C0 [.type "ValueError", .type "Exception", .type "BaseException", .type "object"] "ValueError.__new__" = true) (h0 : PySem.W.keepIn K (.ref C0) = true) (s0 : PySem.W.subIn K (.ref C0) (.type "BaseException") = some true) (t0 : PySem.W.typeIn K (.ref C0) = some (.type "type"))
  {C1 : Addr} (v1 : PySem.W.nsIn K mainGlobals "NoNet" = some (some (.ref C1))) (x1 : PySem.W.excIn K C1 [.type "ValueError", .type "Exception", .type "BaseException", .type "object"] "ValueError.__new__" = true) (h1 : PySem.W.keepIn K (.ref C1) = true) (s1 : PySem.W.subIn K (.ref C1) (.type "BaseException") = some true) (t1 : PySem.W.typeIn K (.ref C1) = some (.type "type"))
  {C2 : Addr} (v2 : PySem.W.nsIn K mainGlobals "NoPlace" = some (some (.ref C2))) (x2 : PySem.W.excIn K C2 [.type "ValueError", .type "Exception", .type "BaseException", .type "object"] "ValueError.__new__" = true) (h2 : PySem.W.keepIn K (.ref C2) = true) (s2 : PySem.W.subIn K (.ref C2) (.type "BaseException") = some true) (t2 : PySem.W.typeIn K (.ref C2) = some (.type "type"))
  {C3 : Addr} (v3 : PySem.W.nsIn K mainGlobals "SamePlace" = some (some (.ref C3))) (x3 : PySem.W.excIn K C3 [.type "ValueError", .type "Exception", .type "BaseException", .type "object"] "ValueError.__new__" = true) (h3 : PySem.W.keepIn K (.ref C3) = true) (s3 : PySem.W.subIn K (.ref C3) (.type "BaseException") = some true) (t3 : PySem.W.typeIn K (.ref C3) = some (.type "type"))
  {C5 : Addr} (v5 : PySem.W.nsIn K mainGlobals "Taken" = some (some (.ref C5))) (x5 : PySem.W.excIn K C5 [.type "ValueError", .type "Exception", .type "BaseException", .type "object"] "ValueError.__new__" = true) (h5 : PySem.W.keepIn K (.ref C5) = true) (s5 : PySem.W.subIn K (.ref C5) (.type "BaseException") = some true) (t5 : PySem.W.typeIn K (.ref C5) = some (.type "type"))
  {C7 : Addr} (v7 : PySem.W.nsIn K mainGlobals "NoSet" = some (some (.ref C7))) (x7 : PySem.W.excIn K C7 [.type "ValueError", .type "Exception", .type "BaseException", .type "object"] "ValueError.__new__" = true) (h7 : PySem.W.keepIn K (.ref C7) = true) (s7 : PySem.W.subIn K (.ref C7) (.type "BaseException") = some true) (t7 : PySem.W.typeIn K (.ref C7) = some (.type "type"))
  {C8 : Addr} (v8 : PySem.W.nsIn K mainGlobals "NoParting" = some (some (.ref C8))) (x8 : PySem.W.excIn K C8 [.type "ValueError", .type "Exception", .type "BaseException", .type "object"] "ValueError.__new__" = true) (h8 : PySem.W.keepIn K (.ref C8) = true) (s8 : PySem.W.subIn K (.ref C8) (.type "BaseException") = some true) (t8 : PySem.W.typeIn K (.ref C8) = some (.type "type"))
  {C9 : Addr} (v9 : PySem.W.nsIn K mainGlobals "NoGroup" = some (some (.ref C9))) (x9 : PySem.W.excIn K C9 [.type "ValueError", .type "Exception", .type "BaseException", .type "object"] "ValueError.__new__" = true) (h9 : PySem.W.keepIn K (.ref C9) = true) (s9 : PySem.W.subIn K (.ref C9) (.type "BaseException") = some true) (t9 : PySem.W.typeIn K (.ref C9) = some (.type "type"))
  (y0 : ExcC K C0) (w0 : PySem.W.exmOne K (.ref C0) (.ref C0) = some true)
  (y1 : ExcC K C1) (w1 : PySem.W.exmOne K (.ref C1) (.ref C0) = some true)
  (y2 : ExcC K C2) (w2 : PySem.W.exmOne K (.ref C2) (.ref C0) = some true)
  (y3 : ExcC K C3) (w3 : PySem.W.exmOne K (.ref C3) (.ref C0) = some true)
  (y5 : ExcC K C5) (w5 : PySem.W.exmOne K (.ref C5) (.ref C0) = some true)
  (y7 : ExcC K C7) (w7 : PySem.W.exmOne K (.ref C7) (.ref C0) = some true)
  (y8 : ExcC K C8) (w8 : PySem.W.exmOne K (.ref C8) (.ref C0) = some true)
  (y9 : ExcC K C9) (w9 : PySem.W.exmOne K (.ref C9) (.ref C0) = some true)
  (z0 : PySem.W.nsIn K mainGlobals "len" = some none)
  (z1 : PySem.W.nsIn K mainGlobals "list" = some none)
  (z2 : PySem.W.nsIn K mainGlobals "tuple" = some none)
  (z3 : PySem.W.nsIn K mainGlobals "str" = some none)
  (z4 : PySem.W.nsIn K mainGlobals "int" = some none)
  (z5 : PySem.W.nsIn K mainGlobals "bool" = some none)
  (z6 : PySem.W.nsIn K mainGlobals "isinstance" = some none)
  (z7 : PySem.W.nsIn K mainGlobals "all" = some none)
  (z8 : PySem.W.nsIn K mainGlobals "any" = some none)
  (z9 : PySem.W.nsIn K mainGlobals "min" = some none)
  (z10 : PySem.W.nsIn K mainGlobals "max" = some none)
  (z11 : PySem.W.nsIn K mainGlobals "sum" = some none)
  (z12 : PySem.W.nsIn K mainGlobals "sorted" = some none)
  (z13 : PySem.W.nsIn K mainGlobals "range" = some none)
  (z14 : PySem.W.nsIn K mainGlobals "enumerate" = some none)
  (z15 : PySem.W.nsIn K mainGlobals "zip" = some none)
  (z16 : PySem.W.nsIn K mainGlobals "set" = some none)
  (z17 : PySem.W.nsIn K mainGlobals "dict" = some none)
  (z18 : PySem.W.nsIn K mainGlobals "reversed" = some none)
  (z19 : PySem.W.nsIn K mainGlobals "abs" = some none)
  {cc42 P42 : Addr} (tb42 : PySem.W.tabIn K "part_of" = some (cc42, P42)) (nt42 : K.lookup P42 = none) (hh42 : PySem.W.CodeHd h cc42 P42 ∧ h.get? P42 = some { cls := .none, data := .fields #[] })
  {cc98 P98 : Addr} (tb98 : PySem.W.tabIn K "quotient" = some (cc98, P98)) (nt98 : K.lookup P98 = none) (hh98 : PySem.W.CodeHd h cc98 P98 ∧ h.get? P98 = some { cls := .none, data := .fields #[] })
  {cc106 P106 : Addr} (tb106 : PySem.W.tabIn K "filled" = some (cc106, P106)) (nt106 : K.lookup P106 = none) (hh106 : PySem.W.CodeHd h cc106 P106 ∧ h.get? P106 = some { cls := .none, data := .fields #[] })
  (hd : ∀ p ∈ ([(P42, "part_of.<locals>.<lambda>", "<lambda>"), (P98, "quotient.<locals>.<lambda>", "<lambda>"), (P106, "filled.<locals>.shade_of", "shade_of")] : List (Addr × Str × Str)), ∀ p' ∈ ([(P42, "part_of.<locals>.<lambda>", "<lambda>"), (P98, "quotient.<locals>.<lambda>", "<lambda>"), (P106, "filled.<locals>.shade_of", "shade_of")] : List (Addr × Str × Str)), p.1 = p'.1 → p.2.1 = p'.2.1)
  : ∃ (fd : FuncData) (tabs : List (Addr × Str × Str)) (cs : List (Addr × Addr)), tabs.map (·.1) = cs.map (·.2) ∧ (∀ p ∈ cs, h.get? p.2 = some { cls := .none, data := .fields #[] }) ∧ (∀ p ∈ cs, K.lookup p.2 = none) ∧ (∀ p ∈ cs, PySem.W.CodeHd h p.1 p.2) ∧ (∀ (s : Shared) (v : Value), BindsTo s fd ⟨[v], []⟩ [("_law_script", v)]) ∧ ∀ base : Heap, K.In base → base.Ns mainGlobals mg → (∀ p ∈ cs, LamX.TabB base mg p.1 p.2) → FnOk PySem.Challenge.rw_modulewood_k13_filled_back.prog w K mg base (L2N.CX PySem.Challenge.rw_modulewood_k13_filled_back.prog w) 14 fa fd ["_law_script"] (spLaw 63 K tabs) := by
  have e := hfa.symm.trans (PySem.W.mg_of X G a111)
  cases e
  have E37 := fun_mk (st := S37) l37 c37 k37
  have B37 := E37.binds (ps := ["places", "some"]) fun _ _ _ _ _ _ us hl => match us, hl with | [_, _], _ => rfl
  have E16 := fun_mk (st := S16) l16 c16 k16
  have B16 := E16.binds (ps := ["places", "place"]) fun _ _ _ _ _ _ us hl => match us, hl with | [_, _], _ => rfl
  have E17 := fun_mk (st := S17) l17 c17 k17
  have B17 := E17.binds (ps := ["places", "one", "other"]) fun _ _ _ _ _ _ us hl => match us, hl with | [_, _, _], _ => rfl
  have E18 := fun_mk (st := S18) l18 c18 k18
  have B18 := E18.binds (ps := ["places", "shade"]) fun _ _ _ _ _ _ us hl => match us, hl with | [_, _], _ => rfl
  have E38 := fun_mk (st := S38) l38 c38 k38
  have B38 := E38.binds (ps := ["net", "one", "other"]) fun _ _ _ _ _ _ us hl => match us, hl with | [_, _, _], _ => rfl
  have E57 := fun_mk (st := S57) l57 c57 k57
  have B57 := E57.binds (ps := ["net"]) fun _ _ _ _ _ _ us hl => match us, hl with | [_], _ => rfl
  have E42 := fun_mk (st := S42) l42 c42 k42
  have B42 := E42.binds (ps := ["net", "some"]) fun _ _ _ _ _ _ us hl => match us, hl with | [_, _], _ => rfl
  have E58 := fun_mk (st := S58) l58 c58 k58
  have B58 := E58.binds (ps := ["shades", "members"]) fun _ _ _ _ _ _ us hl => match us, hl with | [_, _], _ => rfl
  have E59 := fun_mk (st := S59) l59 c59 k59
  have B59 := E59.binds (ps := ["by", "members"]) fun _ _ _ _ _ _ us hl => match us, hl with | [_, _], _ => rfl
  have E63 := fun_mk (st := S63) l63 c63 k63
  have B63 := E63.binds (ps := ["net", "some"]) fun _ _ _ _ _ _ us hl => match us, hl with | [_, _], _ => rfl
  have E64 := fun_mk (st := S64) l64 c64 k64
  have B64 := E64.binds (ps := ["net", "some"]) fun _ _ _ _ _ _ us hl => match us, hl with | [_, _], _ => rfl
  have E97 := fun_mk (st := S97) l97 c97 k97
  have B97 := E97.binds (ps := ["places", "parts"]) fun _ _ _ _ _ _ us hl => match us, hl with | [_, _], _ => rfl
  have E98 := fun_mk (st := S98) l98 c98 k98
  have B98 := E98.binds (ps := ["net", "parts"]) fun _ _ _ _ _ _ us hl => match us, hl with | [_, _], _ => rfl
  have E106 := fun_mk (st := S106) l106 c106 k106
  have B106 := E106.binds (ps := ["net", "place", "inner"]) fun _ _ _ _ _ _ us hl => match us, hl with | [_, _, _], _ => rfl
  have E20 := fun_mk (st := S20) l20 c20 k20
  have B20 := E20.binds (ps := ["_law_script", "_law_k"]) fun _ _ _ _ _ _ us hl => match us, hl with | [_, _], _ => rfl
  have E21 := fun_mk (st := S21) l21 c21 k21
  have B21 := E21.binds (ps := ["_law_found", "_law_due"]) fun _ _ _ _ _ _ us hl => match us, hl with | [_, _], _ => rfl
  have E22 := fun_mk (st := S22) l22 c22 k22
  have B22 := E22.binds (ps := ["_law_cell_here"]) fun _ _ _ _ _ _ us hl => match us, hl with | [_], _ => rfl
  have E23 := fun_mk (st := S23) l23 c23 k23
  have B23 := E23.binds (ps := ["_law_script", "_law_at", "_law_k"]) fun _ _ _ _ _ _ us hl => match us, hl with | [_, _, _], _ => rfl
  have E31 := fun_mk (st := S31) l31 c31 k31
  have B31 := E31.binds (ps := ["_law_script", "_law_at", "_law_many_here"]) fun _ _ _ _ _ _ us hl => match us, hl with | [_, _, _], _ => rfl
  have E43 := fun_mk (st := S43) l43 c43 k43
  have B43 := E43.binds (ps := ["_law_script", "_law_at", "_law_k", "_law_j"]) fun _ _ _ _ _ _ us hl => match us, hl with | [_, _, _, _], _ => rfl
  have E44 := fun_mk (st := S44) l44 c44 k44
  have B44 := E44.binds (ps := ["_law_script", "_law_at", "_law_many_here"]) fun _ _ _ _ _ _ us hl => match us, hl with | [_, _, _], _ => rfl
  have E107 := fun_mk (st := S107) l107 c107 k107
  have B107 := E107.binds (ps := ["_law_script", "_law_many_here", "_law_more", "_law_number"]) fun _ _ _ _ _ _ us hl => match us, hl with | [_, _, _, _], _ => rfl
  have E46 := fun_mk (st := S46) l46 c46 k46
  have B46 := E46.binds (ps := ["_law_net_here"]) fun _ _ _ _ _ _ us hl => match us, hl with | [_], _ => rfl
  have E110 := fun_mk (st := S110) l110 c110 k110
  have B110 := E110.binds (ps := ["_law_net_here", "_law_place", "_law_other"]) fun _ _ _ _ _ _ us hl => match us, hl with | [_, _, _], _ => rfl
  have E111 := fun_mk (st := S111) l111 c111 k111
  have B111 := E111.binds (ps := ["_law_script"]) fun _ _ _ _ _ _ us hl => match us, hl with | [_], _ => rfl
  have hXf : ∀ j x, fnm.h j x = true → HFact K mg (([(0, C0), (1, C1), (2, C2), (3, C3), (5, C5), (7, C7), (8, C8), (9, C9)].lookup j).getD 0) x (relE j x) := fun k x hx => by
    cases (show hll.contains (k, x) = true from hx)
  have hBl : ∀ x, x ∈ bltNames → mg x = none := fun x hx => by
    simp only [bltNames, List.mem_cons, List.not_mem_nil, or_false] at hx
    rcases hx with rfl | rfl | rfl | rfl | rfl | rfl | rfl | rfl | rfl | rfl | rfl | rfl | rfl | rfl | rfl | rfl | rfl | rfl | rfl | rfl
    · exact PySem.W.mg_none_of X G z0
    · exact PySem.W.mg_none_of X G z1
    · exact PySem.W.mg_none_of X G z2
    · exact PySem.W.mg_none_of X G z3
    · exact PySem.W.mg_none_of X G z4
    · exact PySem.W.mg_none_of X G z5
    · exact PySem.W.mg_none_of X G z6
    · exact PySem.W.mg_none_of X G z7
    · exact PySem.W.mg_none_of X G z8
    · exact PySem.W.mg_none_of X G z9
    · exact PySem.W.mg_none_of X G z10
    · exact PySem.W.mg_none_of X G z11
    · exact PySem.W.mg_none_of X G z12
    · exact PySem.W.mg_none_of X G z13
    · exact PySem.W.mg_none_of X G z14
    · exact PySem.W.mg_none_of X G z15
    · exact PySem.W.mg_none_of X G z16
    · exact PySem.W.mg_none_of X G z17
    · exact PySem.W.mg_none_of X G z18
    · exact PySem.W.mg_none_of X G z19
  have hT : ∀ p ∈ ([(cc42, P42), (cc98, P98), (cc106, P106)] : List (Addr × Addr)), h.get? p.2 = some { cls := .none, data := .fields #[] } := fun p hp => by
    simp only [List.mem_cons, List.not_mem_nil, or_false] at hp
    rcases hp with rfl | rfl | rfl
    · exact hh42.2
    · exact hh98.2
    · exact hh106.2
  have hN : ∀ p ∈ ([(cc42, P42), (cc98, P98), (cc106, P106)] : List (Addr × Addr)), K.lookup p.2 = none := fun p hp => by
    simp only [List.mem_cons, List.not_mem_nil, or_false] at hp
    rcases hp with rfl | rfl | rfl
    · exact nt42
    · exact nt98
    · exact nt106
  have hC : ∀ p ∈ ([(cc42, P42), (cc98, P98), (cc106, P106)] : List (Addr × Addr)), PySem.W.CodeHd h p.1 p.2 := fun p hp => by
    simp only [List.mem_cons, List.not_mem_nil, or_false] at hp
    rcases hp with rfl | rfl | rfl
    · exact hh42.1
    · exact hh98.1
    · exact hh106.1
  refine ⟨PySem.W.fnOf "law" "law" (defArgs S111) (defBody S111) (defScope S111) .none kV111 dc111 pm111 an111 cd111 ct111, [(P42, "part_of.<locals>.<lambda>", "<lambda>"), (P98, "quotient.<locals>.<lambda>", "<lambda>"), (P106, "filled.<locals>.shade_of", "shade_of")], [(cc42, P42), (cc98, P98), (cc106, P106)], rfl, hT, hN, hC, fun s v => .of_eq rfl, fun base _ _ hTB => ?_⟩
  have ht42 : TabC ⟨PySem.Challenge.rw_modulewood_k13_filled_back.prog, w, K, mg, base⟩ [(P42, "part_of.<locals>.<lambda>", "<lambda>"), (P98, "quotient.<locals>.<lambda>", "<lambda>"), (P106, "filled.<locals>.shade_of", "shade_of")] N42 "part_of" := fun P y nm hm hq => by
    simp only [List.mem_cons, List.not_mem_nil, or_false, Prod.mk.injEq] at hm
    rcases hm with ⟨e1, e2, e3⟩ | ⟨e1, e2, e3⟩ | ⟨e1, e2, e3⟩
    · rw [e1, e2, e3]; exact ⟨by decide +kernel, g42, _, _, cc42, PySem.W.mg_of X G a42, l42, rfl, PySem.W.law_code X G tb42 (PySem.W.mg_of X G a42) (X _ _ l42) rfl, hTB (cc42, P42) (by simp)⟩
    · rw [e2] at hq; exact absurd hq (by decide +kernel)
    · rw [e2] at hq; exact absurd hq (by decide +kernel)
  have ht98 : TabC ⟨PySem.Challenge.rw_modulewood_k13_filled_back.prog, w, K, mg, base⟩ [(P42, "part_of.<locals>.<lambda>", "<lambda>"), (P98, "quotient.<locals>.<lambda>", "<lambda>"), (P106, "filled.<locals>.shade_of", "shade_of")] N98 "quotient" := fun P y nm hm hq => by
    simp only [List.mem_cons, List.not_mem_nil, or_false, Prod.mk.injEq] at hm
    rcases hm with ⟨e1, e2, e3⟩ | ⟨e1, e2, e3⟩ | ⟨e1, e2, e3⟩
    · rw [e2] at hq; exact absurd hq (by decide +kernel)
    · rw [e1, e2, e3]; exact ⟨by decide +kernel, g98, _, _, cc98, PySem.W.mg_of X G a98, l98, rfl, PySem.W.law_code X G tb98 (PySem.W.mg_of X G a98) (X _ _ l98) rfl, hTB (cc98, P98) (by simp)⟩
    · rw [e2] at hq; exact absurd hq (by decide +kernel)
  have ht106 : TabC ⟨PySem.Challenge.rw_modulewood_k13_filled_back.prog, w, K, mg, base⟩ [(P42, "part_of.<locals>.<lambda>", "<lambda>"), (P98, "quotient.<locals>.<lambda>", "<lambda>"), (P106, "filled.<locals>.shade_of", "shade_of")] N106 "filled" := fun P y nm hm hq => by
    simp only [List.mem_cons, List.not_mem_nil, or_false, Prod.mk.injEq] at hm
    rcases hm with ⟨e1, e2, e3⟩ | ⟨e1, e2, e3⟩ | ⟨e1, e2, e3⟩
    · rw [e2] at hq; exact absurd hq (by decide +kernel)
    · rw [e2] at hq; exact absurd hq (by decide +kernel)
    · rw [e1, e2, e3]; exact ⟨by decide +kernel, g106, _, _, cc106, PySem.W.mg_of X G a106, l106, rfl, PySem.W.law_code X G tb106 (PySem.W.mg_of X G a106) (X _ _ l106) rfl, hTB (cc106, P106) (by simp)⟩
  have ok : ModOk ⟨PySem.Challenge.rw_modulewood_k13_filled_back.prog, w, K, mg, base⟩ (fun k => ([(0, C0), (1, C1), (2, C2), (3, C3), (5, C5), (7, C7), (8, C8), (9, C9)].lookup k).getD 0) [(P42, "part_of.<locals>.<lambda>", "<lambda>"), (P98, "quotient.<locals>.<lambda>", "<lambda>"), (P106, "filled.<locals>.shade_of", "shade_of")] fn0 (fun g => cdl.lookup g) T np := by
   refine ⟨⟨fun _ => rfl, fun _ _ _ => rfl, fun _ _ _ => rfl⟩, fun x d hx => ?_, fun k x hx => ?_, fun k x hx => ?_, hXf, fun base f x wd hx => ?_, hBl, fun f x hf => ?_, fun f F hF => ?_, fun g dd hg => ?_⟩
   · have hm := lookup_mem (show gcl.lookup x = some d from hx)
     simp only [gcl, List.mem_cons, List.not_mem_nil, or_false, Prod.mk.injEq] at hm
     rcases hm with ⟨rfl, rfl⟩
     · exact ⟨.int 24, _, PySem.W.mg_of X G u0, ⟨_, rfl⟩, fun c G => by simp only [RS]⟩
   · have hm := lookup_mem (show cll.lookup k = some x from hx)
     simp only [cll, List.mem_cons, List.not_mem_nil, or_false, Prod.mk.injEq] at hm
     rcases hm with ⟨rfl, rfl⟩ | ⟨rfl, rfl⟩ | ⟨rfl, rfl⟩ | ⟨rfl, rfl⟩ | ⟨rfl, rfl⟩ | ⟨rfl, rfl⟩ | ⟨rfl, rfl⟩ | ⟨rfl, rfl⟩
     · exact ⟨⟨_, _, _, _, PySem.F.excBase_ValueError, x0⟩, PySem.W.mg_of X G v0, h0, s0, t0⟩
     · exact ⟨⟨_, _, _, _, PySem.F.excBase_ValueError, x1⟩, PySem.W.mg_of X G v1, h1, s1, t1⟩
     · exact ⟨⟨_, _, _, _, PySem.F.excBase_ValueError, x2⟩, PySem.W.mg_of X G v2, h2, s2, t2⟩
     · exact ⟨⟨_, _, _, _, PySem.F.excBase_ValueError, x3⟩, PySem.W.mg_of X G v3, h3, s3, t3⟩
     · exact ⟨⟨_, _, _, _, PySem.F.excBase_ValueError, x5⟩, PySem.W.mg_of X G v5, h5, s5, t5⟩
     · exact ⟨⟨_, _, _, _, PySem.F.excBase_ValueError, x7⟩, PySem.W.mg_of X G v7, h7, s7, t7⟩
     · exact ⟨⟨_, _, _, _, PySem.F.excBase_ValueError, x8⟩, PySem.W.mg_of X G v8, h8, s8, t8⟩
     · exact ⟨⟨_, _, _, _, PySem.F.excBase_ValueError, x9⟩, PySem.W.mg_of X G v9, h9, s9, t9⟩
   · have hm := lookup_mem (show cll.lookup k = some x from hx)
     simp only [cll, List.mem_cons, List.not_mem_nil, or_false, Prod.mk.injEq] at hm
     rcases hm with ⟨rfl, rfl⟩ | ⟨rfl, rfl⟩ | ⟨rfl, rfl⟩ | ⟨rfl, rfl⟩ | ⟨rfl, rfl⟩ | ⟨rfl, rfl⟩ | ⟨rfl, rfl⟩ | ⟨rfl, rfl⟩
     · exact ⟨y0, w0⟩
     · exact ⟨y1, w1⟩
     · exact ⟨y2, w2⟩
     · exact ⟨y3, w3⟩
     · exact ⟨y5, w5⟩
     · exact ⟨y7, w7⟩
     · exact ⟨y8, w8⟩
     · exact ⟨y9, w9⟩
   · cases (show wdl.lookup f = some (x, wd) from hx)
   · have hm := lookup_mem (show fnl.lookup f = some x from hf)
     simp only [fnl, List.mem_cons, List.not_mem_nil, or_false, Prod.mk.injEq] at hm
     rcases hm with ⟨rfl, rfl⟩ | ⟨rfl, rfl⟩ | ⟨rfl, rfl⟩ | ⟨rfl, rfl⟩ | ⟨rfl, rfl⟩ | ⟨rfl, rfl⟩ | ⟨rfl, rfl⟩ | ⟨rfl, rfl⟩ | ⟨rfl, rfl⟩ | ⟨rfl, rfl⟩ | ⟨rfl, rfl⟩ | ⟨rfl, rfl⟩ | ⟨rfl, rfl⟩ | ⟨rfl, rfl⟩ | ⟨rfl, rfl⟩ | ⟨rfl, rfl⟩ | ⟨rfl, rfl⟩ | ⟨rfl, rfl⟩ | ⟨rfl, rfl⟩ | ⟨rfl, rfl⟩ | ⟨rfl, rfl⟩ | ⟨rfl, rfl⟩ | ⟨rfl, rfl⟩ | ⟨rfl, rfl⟩ | ⟨rfl, rfl⟩
     · exact ⟨F37, S37, N37, _, rfl, ⟨_, _, E37, PySem.W.mg_of X G a37, B37⟩, sc37, rfl, rfl, rfl, m37, TabC.none (fun p hp => by simp only [List.mem_cons, List.not_mem_nil, or_false] at hp; rcases hp with rfl | rfl | rfl <;> dsimp only <;> decide +kernel)⟩
     · exact ⟨F16, S16, N16, _, rfl, ⟨_, _, E16, PySem.W.mg_of X G a16, B16⟩, sc16, rfl, rfl, rfl, m16, TabC.none (fun p hp => by simp only [List.mem_cons, List.not_mem_nil, or_false] at hp; rcases hp with rfl | rfl | rfl <;> dsimp only <;> decide +kernel)⟩
     · exact ⟨F17, S17, N17, _, rfl, ⟨_, _, E17, PySem.W.mg_of X G a17, B17⟩, sc17, rfl, rfl, rfl, m17, TabC.none (fun p hp => by simp only [List.mem_cons, List.not_mem_nil, or_false] at hp; rcases hp with rfl | rfl | rfl <;> dsimp only <;> decide +kernel)⟩
     · exact ⟨F18, S18, N18, _, rfl, ⟨_, _, E18, PySem.W.mg_of X G a18, B18⟩, sc18, rfl, rfl, rfl, m18, TabC.none (fun p hp => by simp only [List.mem_cons, List.not_mem_nil, or_false] at hp; rcases hp with rfl | rfl | rfl <;> dsimp only <;> decide +kernel)⟩
     · exact ⟨F38, S38, N38, _, rfl, ⟨_, _, E38, PySem.W.mg_of X G a38, B38⟩, sc38, rfl, rfl, rfl, m38, TabC.none (fun p hp => by simp only [List.mem_cons, List.not_mem_nil, or_false] at hp; rcases hp with rfl | rfl | rfl <;> dsimp only <;> decide +kernel)⟩
     · exact ⟨F57, S57, N57, _, rfl, ⟨_, _, E57, PySem.W.mg_of X G a57, B57⟩, sc57, rfl, rfl, rfl, m57, TabC.none (fun p hp => by simp only [List.mem_cons, List.not_mem_nil, or_false] at hp; rcases hp with rfl | rfl | rfl <;> dsimp only <;> decide +kernel)⟩
     · exact ⟨F42, S42, N42, _, rfl, ⟨_, _, E42, PySem.W.mg_of X G a42, B42⟩, sc42, rfl, rfl, rfl, m42, ht42⟩
     · exact ⟨F58, S58, N58, _, rfl, ⟨_, _, E58, PySem.W.mg_of X G a58, B58⟩, sc58, rfl, rfl, rfl, m58, TabC.none (fun p hp => by simp only [List.mem_cons, List.not_mem_nil, or_false] at hp; rcases hp with rfl | rfl | rfl <;> dsimp only <;> decide +kernel)⟩
     · exact ⟨F59, S59, N59, _, rfl, ⟨_, _, E59, PySem.W.mg_of X G a59, B59⟩, sc59, rfl, rfl, rfl, m59, TabC.none (fun p hp => by simp only [List.mem_cons, List.not_mem_nil, or_false] at hp; rcases hp with rfl | rfl | rfl <;> dsimp only <;> decide +kernel)⟩
     · exact ⟨F63, S63, N63, _, rfl, ⟨_, _, E63, PySem.W.mg_of X G a63, B63⟩, sc63, rfl, rfl, rfl, m63, TabC.none (fun p hp => by simp only [List.mem_cons, List.not_mem_nil, or_false] at hp; rcases hp with rfl | rfl | rfl <;> dsimp only <;> decide +kernel)⟩
     · exact ⟨F64, S64, N64, _, rfl, ⟨_, _, E64, PySem.W.mg_of X G a64, B64⟩, sc64, rfl, rfl, rfl, m64, TabC.none (fun p hp => by simp only [List.mem_cons, List.not_mem_nil, or_false] at hp; rcases hp with rfl | rfl | rfl <;> dsimp only <;> decide +kernel)⟩
     · exact ⟨F97, S97, N97, _, rfl, ⟨_, _, E97, PySem.W.mg_of X G a97, B97⟩, sc97, rfl, rfl, rfl, m97, TabC.none (fun p hp => by simp only [List.mem_cons, List.not_mem_nil, or_false] at hp; rcases hp with rfl | rfl | rfl <;> dsimp only <;> decide +kernel)⟩
     · exact ⟨F98, S98, N98, _, rfl, ⟨_, _, E98, PySem.W.mg_of X G a98, B98⟩, sc98, rfl, rfl, rfl, m98, ht98⟩
     · exact ⟨F106, S106, N106, _, rfl, ⟨_, _, E106, PySem.W.mg_of X G a106, B106⟩, sc106, rfl, rfl, rfl, m106, ht106⟩
     · exact ⟨F20, S20, N20, _, rfl, ⟨_, _, E20, PySem.W.mg_of X G a20, B20⟩, sc20, rfl, rfl, rfl, m20, TabC.none (fun p hp => by simp only [List.mem_cons, List.not_mem_nil, or_false] at hp; rcases hp with rfl | rfl | rfl <;> dsimp only <;> decide +kernel)⟩
     · exact ⟨F21, S21, N21, _, rfl, ⟨_, _, E21, PySem.W.mg_of X G a21, B21⟩, sc21, rfl, rfl, rfl, m21, TabC.none (fun p hp => by simp only [List.mem_cons, List.not_mem_nil, or_false] at hp; rcases hp with rfl | rfl | rfl <;> dsimp only <;> decide +kernel)⟩
     · exact ⟨F22, S22, N22, _, rfl, ⟨_, _, E22, PySem.W.mg_of X G a22, B22⟩, sc22, rfl, rfl, rfl, m22, TabC.none (fun p hp => by simp only [List.mem_cons, List.not_mem_nil, or_false] at hp; rcases hp with rfl | rfl | rfl <;> dsimp only <;> decide +kernel)⟩
     · exact ⟨F23, S23, N23, _, rfl, ⟨_, _, E23, PySem.W.mg_of X G a23, B23⟩, sc23, rfl, rfl, rfl, m23, TabC.none (fun p hp => by simp only [List.mem_cons, List.not_mem_nil, or_false] at hp; rcases hp with rfl | rfl | rfl <;> dsimp only <;> decide +kernel)⟩
     · exact ⟨F31, S31, N31, _, rfl, ⟨_, _, E31, PySem.W.mg_of X G a31, B31⟩, sc31, rfl, rfl, rfl, m31, TabC.none (fun p hp => by simp only [List.mem_cons, List.not_mem_nil, or_false] at hp; rcases hp with rfl | rfl | rfl <;> dsimp only <;> decide +kernel)⟩
     · exact ⟨F43, S43, N43, _, rfl, ⟨_, _, E43, PySem.W.mg_of X G a43, B43⟩, sc43, rfl, rfl, rfl, m43, TabC.none (fun p hp => by simp only [List.mem_cons, List.not_mem_nil, or_false] at hp; rcases hp with rfl | rfl | rfl <;> dsimp only <;> decide +kernel)⟩
     · exact ⟨F44, S44, N44, _, rfl, ⟨_, _, E44, PySem.W.mg_of X G a44, B44⟩, sc44, rfl, rfl, rfl, m44, TabC.none (fun p hp => by simp only [List.mem_cons, List.not_mem_nil, or_false] at hp; rcases hp with rfl | rfl | rfl <;> dsimp only <;> decide +kernel)⟩
     · exact ⟨F107, S107, N107, _, rfl, ⟨_, _, E107, PySem.W.mg_of X G a107, B107⟩, sc107, rfl, rfl, rfl, m107, TabC.none (fun p hp => by simp only [List.mem_cons, List.not_mem_nil, or_false] at hp; rcases hp with rfl | rfl | rfl <;> dsimp only <;> decide +kernel)⟩
     · exact ⟨F46, S46, N46, _, rfl, ⟨_, _, E46, PySem.W.mg_of X G a46, B46⟩, sc46, rfl, rfl, rfl, m46, TabC.none (fun p hp => by simp only [List.mem_cons, List.not_mem_nil, or_false] at hp; rcases hp with rfl | rfl | rfl <;> dsimp only <;> decide +kernel)⟩
     · exact ⟨F110, S110, N110, _, rfl, ⟨_, _, E110, PySem.W.mg_of X G a110, B110⟩, sc110, rfl, rfl, rfl, m110, TabC.none (fun p hp => by simp only [List.mem_cons, List.not_mem_nil, or_false] at hp; rcases hp with rfl | rfl | rfl <;> dsimp only <;> decide +kernel)⟩
     · exact ⟨F111, S111, N111, _, rfl, ⟨_, _, E111, PySem.W.mg_of X G a111, B111⟩, sc111, rfl, rfl, rfl, m111, TabC.none (fun p hp => by simp only [List.mem_cons, List.not_mem_nil, or_false] at hp; rcases hp with rfl | rfl | rfl <;> dsimp only <;> decide +kernel)⟩
   · unfold np
     rw [hF]
   · have hm := lookup_mem (show cdl.lookup g = some dd from hg)
     simp only [cdl, List.mem_cons, List.not_mem_nil, or_false, Prod.mk.injEq] at hm
     rcases hm with ⟨rfl, rfl⟩ | ⟨rfl, rfl⟩ | ⟨rfl, rfl⟩
     · refine ⟨⟨P42, by simp⟩, fun p hp => ?_⟩
       simp only [List.mem_cons, List.not_mem_nil, or_false] at hp
       rcases hp with rfl | rfl | rfl <;> dsimp only <;> decide +kernel
     · refine ⟨⟨P98, by simp⟩, fun p hp => ?_⟩
       simp only [List.mem_cons, List.not_mem_nil, or_false] at hp
       rcases hp with rfl | rfl | rfl <;> dsimp only <;> decide +kernel
     · refine ⟨⟨P106, by simp⟩, fun p hp => ?_⟩
       simp only [List.mem_cons, List.not_mem_nil, or_false] at hp
       rcases hp with rfl | rfl | rfl <;> dsimp only <;> decide +kernel
  refine law_at ok hd 6 63 (f := 111) (x := "law") (F := F111) (N := N111) rfl E111 hfa sc111 rfl rfl rfl m111 (TabC.none (fun p hp => by simp only [List.mem_cons, List.not_mem_nil, or_false] at hp; rcases hp with rfl | rfl | rfl <;> dsimp only <;> decide +kernel)) rfl (law_13 0)
end MW46
open PySem PySem.W PyProof.Rows
set_option maxHeartbeats 0 in
theorem PySem.Challenge.cw_modulewood_k13_filled_back_holds : PySem.Challenge.rw_modulewood_k13_filled_back.Holds := by
  w_on; o_law; k_head; (case hw => w_witness2)
  k_fill
  refine MW.walk_ofMk (l := PySem.Challenge.rw_modulewood_k13_filled_back) (n := 63) (k := 14) (x := "_law_script") (CX := fun w => L2N.CX PySem.Challenge.rw_modulewood_k13_filled_back.prog w) rfl (by decide) rfl ⟨rfl, by decide, by decide⟩ (fun w h Y => by first | exact PySem.W.kIn_of Y | exact PySem.W.km_in_of Y) ?F (fun _ _ _ _ _ z => MW.noEx z)
  case F =>
    intro w mg fa h Y KX G hmg hk
    refine' MW.lawAt (MW46.all_mk KX G hmg ?a37 ?l37 ?c37 ?k37 ?a16 ?l16 ?c16 ?k16 ?a17 ?l17 ?c17 ?k17 ?a18 ?l18 ?c18 ?k18 ?a38 ?l38 ?c38 ?k38 ?a57 ?l57 ?c57 ?k57 ?a42 ?l42 ?c42 ?k42 ?a58 ?l58 ?c58 ?k58 ?a59 ?l59 ?c59 ?k59 ?a63 ?l63 ?c63 ?k63 ?a64 ?l64 ?c64 ?k64 ?a97 ?l97 ?c97 ?k97 ?a98 ?l98 ?c98 ?k98 ?a106 ?l106 ?c106 ?k106 ?a20 ?l20 ?c20 ?k20 ?a21 ?l21 ?c21 ?k21 ?a22 ?l22 ?c22 ?k22 ?a23 ?l23 ?c23 ?k23 ?a31 ?l31 ?c31 ?k31 ?a43 ?l43 ?c43 ?k43 ?a44 ?l44 ?c44 ?k44 ?a107 ?l107 ?c107 ?k107 ?a46 ?l46 ?c46 ?k46 ?a110 ?l110 ?c110 ?k110 ?a111 ?l111 ?c111 ?k111 ?u0 ?v0 ?x0 ?h0 ?s0 ?t0 ?v1 ?x1 ?h1 ?s1 ?t1 ?v2 ?x2 ?h2 ?s2 ?t2 ?v3 ?x3 ?h3 ?s3 ?t3 ?v5 ?x5 ?h5 ?s5 ?t5 ?v7 ?x7 ?h7 ?s7 ?t7 ?v8 ?x8 ?h8 ?s8 ?t8 ?v9 ?x9 ?h9 ?s9 ?t9 ?y0 ?w0 ?y1 ?w1 ?y2 ?w2 ?y3 ?w3 ?y5 ?w5 ?y7 ?w7 ?y8 ?w8 ?y9 ?w9 ?z0 ?z1 ?z2 ?z3 ?z4 ?z5 ?z6 ?z7 ?z8 ?z9 ?z10 ?z11 ?z12 ?z13 ?z14 ?z15 ?z16 ?z17 ?z18 ?z19 ?tb42 ?nt42 (hk "part_of" _ _ (by decide +kernel) ?tb42) ?tb98 ?nt98 (hk "quotient" _ _ (by decide +kernel) ?tb98) ?tb106 ?nt106 (hk "filled" _ _ (by decide +kernel) ?tb106) ?hd)
    (case a37 => k_is); (case l37 => k_is); (case c37 => k_is); (case k37 => k_is); (case a16 => k_is); (case l16 => k_is); (case c16 => k_is); (case k16 => k_is)
    (case a17 => k_is); (case l17 => k_is); (case c17 => k_is); (case k17 => k_is); (case a18 => k_is); (case l18 => k_is); (case c18 => k_is); (case k18 => k_is)
    (case a38 => k_is); (case l38 => k_is); (case c38 => k_is); (case k38 => k_is); (case a57 => k_is); (case l57 => k_is); (case c57 => k_is); (case k57 => k_is)
    (case a42 => k_is); (case l42 => k_is); (case c42 => k_is); (case k42 => k_is); (case a58 => k_is); (case l58 => k_is); (case c58 => k_is); (case k58 => k_is)
    (case a59 => k_is); (case l59 => k_is); (case c59 => k_is); (case k59 => k_is); (case a63 => k_is); (case l63 => k_is); (case c63 => k_is); (case k63 => k_is)
    (case a64 => k_is); (case l64 => k_is); (case c64 => k_is); (case k64 => k_is); (case a97 => k_is); (case l97 => k_is); (case c97 => k_is); (case k97 => k_is)
    (case a98 => k_is); (case l98 => k_is); (case c98 => k_is); (case k98 => k_is); (case a106 => k_is); (case l106 => k_is); (case c106 => k_is); (case k106 => k_is)
    (case a20 => k_is); (case l20 => k_is); (case c20 => k_is); (case k20 => k_is); (case a21 => k_is); (case l21 => k_is); (case c21 => k_is); (case k21 => k_is)
    (case a22 => k_is); (case l22 => k_is); (case c22 => k_is); (case k22 => k_is); (case a23 => k_is); (case l23 => k_is); (case c23 => k_is); (case k23 => k_is)
    (case a31 => k_is); (case l31 => k_is); (case c31 => k_is); (case k31 => k_is); (case a43 => k_is); (case l43 => k_is); (case c43 => k_is); (case k43 => k_is)
    (case a44 => k_is); (case l44 => k_is); (case c44 => k_is); (case k44 => k_is); (case a107 => k_is); (case l107 => k_is); (case c107 => k_is); (case k107 => k_is)
    (case a46 => k_is); (case l46 => k_is); (case c46 => k_is); (case k46 => k_is); (case a110 => k_is); (case l110 => k_is); (case c110 => k_is); (case k110 => k_is)
    (case a111 => k_is); (case l111 => k_is); (case c111 => k_is); (case k111 => k_is); (case u0 => k_is); (case v0 => k_is); (case x0 => k_exc); (case h0 => k_is)
    (case s0 => k_is); (case t0 => k_is); (case v1 => k_is); (case x1 => k_exc); (case h1 => k_is); (case s1 => k_is); (case t1 => k_is); (case v2 => k_is)
    (case x2 => k_exc); (case h2 => k_is); (case s2 => k_is); (case t2 => k_is); (case v3 => k_is); (case x3 => k_exc); (case h3 => k_is); (case s3 => k_is)
    (case t3 => k_is); (case v5 => k_is); (case x5 => k_exc); (case h5 => k_is); (case s5 => k_is); (case t5 => k_is); (case v7 => k_is); (case x7 => k_exc)
    (case h7 => k_is); (case s7 => k_is); (case t7 => k_is); (case v8 => k_is); (case x8 => k_exc); (case h8 => k_is); (case s8 => k_is); (case t8 => k_is)
    (case v9 => k_is); (case x9 => k_exc); (case h9 => k_is); (case s9 => k_is); (case t9 => k_is); (case y0 => constructor <;> k_is); (case w0 => refine PySem.W.exm_ref ?_ ?_ ?_ ?_ <;> first | rfl | k_is); (case y1 => constructor <;> k_is)
    (case w1 => refine PySem.W.exm_ref ?_ ?_ ?_ ?_ <;> first | rfl | k_is); (case y2 => constructor <;> k_is); (case w2 => refine PySem.W.exm_ref ?_ ?_ ?_ ?_ <;> first | rfl | k_is); (case y3 => constructor <;> k_is); (case w3 => refine PySem.W.exm_ref ?_ ?_ ?_ ?_ <;> first | rfl | k_is); (case y5 => constructor <;> k_is); (case w5 => refine PySem.W.exm_ref ?_ ?_ ?_ ?_ <;> first | rfl | k_is); (case y7 => constructor <;> k_is)
    (case w7 => refine PySem.W.exm_ref ?_ ?_ ?_ ?_ <;> first | rfl | k_is); (case y8 => constructor <;> k_is); (case w8 => refine PySem.W.exm_ref ?_ ?_ ?_ ?_ <;> first | rfl | k_is); (case y9 => constructor <;> k_is); (case w9 => refine PySem.W.exm_ref ?_ ?_ ?_ ?_ <;> first | rfl | k_is); (case z0 => k_is); (case z1 => k_is); (case z2 => k_is)
    (case z3 => k_is); (case z4 => k_is); (case z5 => k_is); (case z6 => k_is); (case z7 => k_is); (case z8 => k_is); (case z9 => k_is); (case z10 => k_is)
    (case z11 => k_is); (case z12 => k_is); (case z13 => k_is); (case z14 => k_is); (case z15 => k_is); (case z16 => k_is); (case z17 => k_is); (case z18 => k_is)
    (case z19 => k_is); (case tb42 => first | rfl | k_is); (case nt42 => first | rfl | k_is); (case tb98 => first | rfl | k_is); (case nt98 => first | rfl | k_is); (case tb106 => first | rfl | k_is); (case nt106 => first | rfl | k_is)
    (case hd => decide)
