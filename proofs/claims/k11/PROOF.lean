import PyProof.Rows.All
import HandS.ForMost
import HandS.Deep
import HandS.IsInst
import HandS.Zip
import HandS.TupAny
import HandS.Conv
import HandS.Style
import HandS.Flow
import HandS.Exc
import HandS.Wide
import HandS.CallSlots
import HandS.Defaults
import HandS.List
import Wide.All
import OpenK.AllK
import Wide.FinOn
import KE.KStateDown
import Lean
import HandS.Base
import HandS.Call
import HandS.Ends
import HandS.More
import HandS.Words
import HandS.WordsExc
import HandS.Head0
import HandS.Head1
import HandS.Head2
import HandS.HeadEnd
import HandS.HeadHook1
import HandS.HeadHook2
import PySem.Challenge.RW_fairanyprice_k11_two_books_of_one_row
set_option Elab.async false
set_option linter.all false
set_option maxRecDepth 100000
set_option maxHeartbeats 0
/-! EvA: the data of the plain reading, what it stands for on the heap. -/
namespace EV
open PySem PySem.Spec PyProof.Rows L2

/-- plain data: a list or a dict bears a flag: true, it is its holder's alone and may be written; false, it is shared and never written again -/
inductive D where
  | non | bl (b : Bool) | int (i : Int) | str (s : Str)
  | tup (xs : List D) | lst (o : Bool) (xs : List D) | scr (ns : List Int)
  | dk (o : Bool) (kvs : List (Key × D)) | dt (o : Bool) (kvs : List (List Key × D)) | fn (i : Nat)
instance : Inhabited D := ⟨.non⟩

mutual
/-- shared from now on -/
def frz : D → D
  | .tup xs => .tup (frzs xs)
  | .lst _ xs => .lst false (frzs xs)
  | .dk _ kvs => .dk false kvs
  | .dt _ kvs => .dt false kvs
  | d => d
def frzs : List D → List D
  | [] => []
  | d :: ds => frz d :: frzs ds
end
mutual
/-- nothing in it may be written -/
def fz : D → Bool
  | .tup xs => fzs xs
  | .lst o xs => !o && fzs xs
  | .dk o _ => !o
  | .dt o _ => !o
  | _ => true
def fzs : List D → Bool
  | [] => true
  | d :: ds => fz d && fzs ds
end
mutual
theorem frz_of : ∀ d : D, fz d = true → frz d = d
  | .non, _ => rfl
  | .bl _, _ => rfl
  | .int _, _ => rfl
  | .str _, _ => rfl
  | .scr _, _ => rfl
  | .fn _, _ => rfl
  | .tup xs, h => congrArg D.tup (frzs_of xs h)
  | .lst o xs, h => by
    have h2 : (!o && fzs xs) = true := h
    rw [Bool.and_eq_true] at h2
    show D.lst false (frzs xs) = D.lst o xs
    rw [frzs_of xs h2.2]
    cases o
    · rfl
    · exact absurd h2.1 (by decide)
  | .dk o kvs, h => by
    cases o
    · rfl
    · cases h
  | .dt o kvs, h => by
    cases o
    · rfl
    · cases h
theorem frzs_of : ∀ ds : List D, fzs ds = true → frzs ds = ds
  | [], _ => rfl
  | d :: ds, h => by
    have h2 : (fz d && fzs ds) = true := h
    rw [Bool.and_eq_true] at h2
    show frz d :: frzs ds = d :: ds
    rw [frz_of d h2.1, frzs_of ds h2.2]
end
mutual
theorem fz_frz : ∀ d : D, fz (frz d) = true
  | .non => rfl
  | .bl _ => rfl
  | .int _ => rfl
  | .str _ => rfl
  | .scr _ => rfl
  | .fn _ => rfl
  | .tup xs => fzs_frzs xs
  | .lst o xs => by
    show (!false && fzs (frzs xs)) = true
    rw [fzs_frzs xs]; rfl
  | .dk o kvs => rfl
  | .dt o kvs => rfl
theorem fzs_frzs : ∀ ds : List D, fzs (frzs ds) = true
  | [] => rfl
  | d :: ds => by
    show (fz (frz d) && fzs (frzs ds)) = true
    rw [fz_frz d, fzs_frzs ds]; rfl
end
theorem frzs_map : ∀ ds : List D, frzs ds = ds.map frz
  | [] => rfl
  | d :: ds => by
    show frz d :: frzs ds = _
    rw [frzs_map ds]; rfl
theorem fzs_all : ∀ ds : List D, fzs ds = ds.all fz
  | [] => rfl
  | d :: ds => by
    show (fz d && fzs ds) = _
    rw [fzs_all ds]; rfl

/-! ### what data stand for -/
/-- global facts that data lean on: the functions by number -/
structure GF where
  fa : Nat → Addr
  ca : Nat → Addr
  xn : Nat → Str
structure GI extends GF where
  K : PySem.W.Frag

mutual
/-- v is d: F the shared heap, H all of it; the list: whose alone -/
inductive RO (G : GI) (F H : Hp) : List Addr → V → D → Prop
  | non : RO G F H [] .non .non
  | bl (b : Bool) : RO G F H [] (.bl b) (.bl b)
  | int (i : Int) : RO G F H [] (.int i) (.int i)
  | str (s : Str) : RO G F H [] (.str s) (.str s)
  | tup {a : Addr} {vs : List V} {ds : List D} {fs : List Addr} : F a = some (.tup vs) → ROs G F H fs vs ds → RO G F H fs (.ref a) (.tup ds)
  | lz {a : Addr} {vs : List V} {ds : List D} : F a = some (.lst vs) → ROs G F H [] vs ds → RO G F H [] (.ref a) (.lst false ds)
  | lo {a : Addr} {vs : List V} {ds : List D} {fs : List Addr} : H a = some (.lst vs) → ROs G F H fs vs ds → RO G F H (a :: fs) (.ref a) (.lst true ds)
  | scr {a : Addr} {ns : List Int} : SqL G.K F a (ns.map V.int) → RO G F H [] (.ref a) (.scr ns)
  | dkz {a : Addr} {kvs : List (Key × V)} {kds : List (Key × D)} : F a = some (.dK kvs) → kvs.map (·.1) = kds.map (·.1) → ROs G F H [] (kvs.map (·.2)) (kds.map (·.2)) → RO G F H [] (.ref a) (.dk false kds)
  | dko {a : Addr} {kvs : List (Key × V)} {kds : List (Key × D)} : H a = some (.dK kvs) → kvs.map (·.1) = kds.map (·.1) → ROs G F H [] (kvs.map (·.2)) (kds.map (·.2)) → RO G F H [a] (.ref a) (.dk true kds)
  | dtz {a : Addr} {kvs : List (List Key × V)} {kds : List (List Key × D)} : F a = some (.dT kvs) → kvs.map (·.1) = kds.map (·.1) → ROs G F H [] (kvs.map (·.2)) (kds.map (·.2)) → RO G F H [] (.ref a) (.dt false kds)
  | dto {a : Addr} {kvs : List (List Key × V)} {kds : List (List Key × D)} : H a = some (.dT kvs) → kvs.map (·.1) = kds.map (·.1) → ROs G F H [] (kvs.map (·.2)) (kds.map (·.2)) → RO G F H [a] (.ref a) (.dt true kds)
  | fn (i : Nat) : RO G F H [] (.ref (G.fa i)) (.fn i)
inductive ROs (G : GI) (F H : Hp) : List Addr → List V → List D → Prop
  | nil : ROs G F H [] [] []
  | cons {f fs : List Addr} {v : V} {vs : List V} {d : D} {ds : List D} : RO G F H f v d → ROs G F H fs vs ds → ROs G F H (f ++ fs) (v :: vs) (d :: ds)
end
section
variable {G : GI} {F H F' H' : Hp}
theorem SqL.le {K : PySem.W.Frag} {a : Addr} {xs : List V} (h : SqL K F a xs) (hF : ∀ a o, F a = some o → F' a = some o) : SqL K F' a xs := by
  rcases h with (h | ⟨o, h⟩) | h
  · exact .inl (.inl (hF _ _ h))
  · exact .inl (.inr ⟨o, hF _ _ h⟩)
  · exact .inr h
mutual
theorem RO.mono (hF : ∀ a o, F a = some o → F' a = some o) : ∀ {p : List Addr} {v : V} {d : D}, RO G F H p v d → (∀ a, a ∈ p → ∀ o, H a = some o → H' a = some o) → RO G F' H' p v d
  | _, _, _, .non, _ => .non
  | _, _, _, .bl b, _ => .bl b
  | _, _, _, .int i, _ => .int i
  | _, _, _, .str i, _ => .str i
  | _, _, _, .fn i, _ => .fn i
  | _, _, _, .tup e r, h => .tup (hF _ _ e) (ROs.mono hF r h)
  | _, _, _, .lz e r, h => .lz (hF _ _ e) (ROs.mono hF r fun a z => nomatch z)
  | _, _, _, .lo e r, h => .lo (h _ (List.mem_cons_self ..) _ e) (ROs.mono hF r fun a z => h a (List.mem_cons_of_mem _ z))
  | _, _, _, .scr e, _ => .scr (SqL.le e hF)
  | _, _, _, .dkz e k r, h => .dkz (hF _ _ e) k (ROs.mono hF r fun a z => nomatch z)
  | _, _, _, .dko e k r, h => .dko (h _ (List.mem_cons_self ..) _ e) k (ROs.mono hF r fun a z => nomatch z)
  | _, _, _, .dtz e k r, h => .dtz (hF _ _ e) k (ROs.mono hF r fun a z => nomatch z)
  | _, _, _, .dto e k r, h => .dto (h _ (List.mem_cons_self ..) _ e) k (ROs.mono hF r fun a z => nomatch z)
theorem ROs.mono (hF : ∀ a o, F a = some o → F' a = some o) : ∀ {p : List Addr} {v : List V} {d : List D}, ROs G F H p v d → (∀ a, a ∈ p → ∀ o, H a = some o → H' a = some o) → ROs G F' H' p v d
  | _, _, _, .nil, _ => .nil
  | _, _, _, .cons r rs, h => .cons (RO.mono hF r fun a z => h a (List.mem_append_left _ z)) (ROs.mono hF rs fun a z => h a (List.mem_append_right _ z))
end
theorem RO.monoZ (hF : ∀ a o, F a = some o → F' a = some o) {v : V} {d : D} (r : RO G F H [] v d) : RO G F' H' [] v d := r.mono hF fun a z => nomatch z
theorem ROs.monoZ (hF : ∀ a o, F a = some o → F' a = some o) {v : List V} {d : List D} (r : ROs G F H [] v d) : ROs G F' H' [] v d := r.mono hF fun a z => nomatch z
theorem RO.cast {p q : List Addr} {v : V} {d : D} (r : RO G F H p v d) (e : p = q) : RO G F H q v d := e ▸ r
theorem ROs.cast {p q : List Addr} {v : List V} {d : List D} (r : ROs G F H p v d) (e : p = q) : ROs G F H q v d := e ▸ r
mutual
/-- all of it becomes shared -/
theorem RO.frz (hF : ∀ a o, F a = some o → F' a = some o) : ∀ {p : List Addr} {v : V} {d : D}, RO G F H p v d → (∀ a, a ∈ p → ∀ o, H a = some o → F' a = some o) → RO G F' H' [] v (frz d)
  | _, _, _, .non, _ => .non
  | _, _, _, .bl b, _ => .bl b
  | _, _, _, .int i, _ => .int i
  | _, _, _, .str i, _ => .str i
  | _, _, _, .fn i, _ => .fn i
  | _, _, _, .tup e r, h => .tup (hF _ _ e) (ROs.frz hF r h)
  | _, _, _, .lz e r, h => .lz (hF _ _ e) (ROs.frz hF r fun a z => nomatch z)
  | _, _, _, .lo e r, h => .lz (h _ (List.mem_cons_self ..) _ e) (ROs.frz hF r fun a z => h a (List.mem_cons_of_mem _ z))
  | _, _, _, .scr e, _ => .scr (SqL.le e hF)
  | _, _, _, .dkz e k r, h => .dkz (hF _ _ e) k (r.monoZ hF)
  | _, _, _, .dko e k r, h => .dkz (h _ (List.mem_cons_self ..) _ e) k (r.monoZ hF)
  | _, _, _, .dtz e k r, h => .dtz (hF _ _ e) k (r.monoZ hF)
  | _, _, _, .dto e k r, h => .dtz (h _ (List.mem_cons_self ..) _ e) k (r.monoZ hF)
theorem ROs.frz (hF : ∀ a o, F a = some o → F' a = some o) : ∀ {p : List Addr} {v : List V} {d : List D}, ROs G F H p v d → (∀ a, a ∈ p → ∀ o, H a = some o → F' a = some o) → ROs G F' H' [] v (frzs d)
  | _, _, _, .nil, _ => .nil
  | _, _, _, .cons r rs, h => .cons (RO.frz hF r fun a z => h a (List.mem_append_left _ z)) (ROs.frz hF rs fun a z => h a (List.mem_append_right _ z))
end
mutual
theorem RO.nil_of_fz : ∀ {p : List Addr} {v : V} {d : D}, RO G F H p v d → fz d = true → p = []
  | _, _, _, .non, _ => rfl
  | _, _, _, .bl b, _ => rfl
  | _, _, _, .int i, _ => rfl
  | _, _, _, .str i, _ => rfl
  | _, _, _, .fn i, _ => rfl
  | _, _, _, .tup e r, h => ROs.nil_of_fz r h
  | _, _, _, .lz e r, h => rfl
  | _, _, _, .lo e r, h => by cases h
  | _, _, _, .scr e, _ => rfl
  | _, _, _, .dkz e k r, h => rfl
  | _, _, _, .dko e k r, h => by cases h
  | _, _, _, .dtz e k r, h => rfl
  | _, _, _, .dto e k r, h => by cases h
theorem ROs.nil_of_fz : ∀ {p : List Addr} {v : List V} {d : List D}, ROs G F H p v d → fzs d = true → p = []
  | _, _, _, .nil, _ => rfl
  | _, _, _, .cons (d := d) (ds := ds) r rs, h => by
    have h2 : (fz d && fzs ds) = true := h
    rw [Bool.and_eq_true] at h2
    rw [RO.nil_of_fz r h2.1, ROs.nil_of_fz rs h2.2]; rfl
end
mutual
theorem RO.fz_of_nil : ∀ {p : List Addr} {v : V} {d : D}, RO G F H p v d → p = [] → fz d = true
  | _, _, _, .non, _ => rfl
  | _, _, _, .bl b, _ => rfl
  | _, _, _, .int i, _ => rfl
  | _, _, _, .str i, _ => rfl
  | _, _, _, .fn i, _ => rfl
  | _, _, _, .tup e r, h => ROs.fz_of_nil r h
  | _, _, _, .lz (ds := ds) e r, h => by
    show (!false && fzs ds) = true
    rw [ROs.fz_of_nil r rfl]; rfl
  | _, _, _, .lo e r, h => by cases h
  | _, _, _, .scr e, _ => rfl
  | _, _, _, .dkz e k r, h => rfl
  | _, _, _, .dko e k r, h => by cases h
  | _, _, _, .dtz e k r, h => rfl
  | _, _, _, .dto e k r, h => by cases h
theorem ROs.fz_of_nil : ∀ {p : List Addr} {v : List V} {d : List D}, ROs G F H p v d → p = [] → fzs d = true
  | _, _, _, .nil, _ => rfl
  | _, _, _, .cons (d := d) (ds := ds) r rs, h => by
    have h2 := List.append_eq_nil_iff.mp h
    show (fz d && fzs ds) = true
    rw [RO.fz_of_nil r h2.1, ROs.fz_of_nil rs h2.2]; rfl
end
theorem RO.z {v : V} {d : D} (r : RO G F H [] v d) : EV.frz d = d := frz_of d (r.fz_of_nil rfl)
theorem ROs.z {v : List V} {d : List D} (r : ROs G F H [] v d) : frzs d = d := frzs_of d (r.fz_of_nil rfl)
mutual
/-- what is one's own is tracked -/
theorem RO.there : ∀ {p : List Addr} {v : V} {d : D}, RO G F H p v d → ∀ a, a ∈ p → ∃ o, H a = some o
  | _, _, _, .non, _, z => nomatch z
  | _, _, _, .bl b, _, z => nomatch z
  | _, _, _, .int i, _, z => nomatch z
  | _, _, _, .str i, _, z => nomatch z
  | _, _, _, .fn i, _, z => nomatch z
  | _, _, _, .tup e r, a, z => ROs.there r a z
  | _, _, _, .lz e r, _, z => nomatch z
  | _, _, _, .lo e r, a, z => by
    rcases List.mem_cons.mp z with q | q
    · exact q ▸ ⟨_, e⟩
    · exact ROs.there r a q
  | _, _, _, .scr e, _, z => nomatch z
  | _, _, _, .dkz e k r, _, z => nomatch z
  | _, _, _, .dko e k r, a, z => by
    rcases List.mem_cons.mp z with q | q
    · exact q ▸ ⟨_, e⟩
    · cases q
  | _, _, _, .dtz e k r, _, z => nomatch z
  | _, _, _, .dto e k r, a, z => by
    rcases List.mem_cons.mp z with q | q
    · exact q ▸ ⟨_, e⟩
    · cases q
theorem ROs.there : ∀ {p : List Addr} {v : List V} {d : List D}, ROs G F H p v d → ∀ a, a ∈ p → ∃ o, H a = some o
  | _, _, _, .nil, _, z => nomatch z
  | _, _, _, .cons r rs, a, z => (List.mem_append.mp z).elim (RO.there r a) (ROs.there rs a)
end
theorem ROs.length : ∀ {p : List Addr} {v : List V} {d : List D}, ROs G F H p v d → v.length = d.length
  | _, _, _, .nil => rfl
  | _, _, _, .cons r rs => congrArg (· + 1) (ROs.length rs)
theorem ROs.inv {p : List Addr} {v : V} {vs : List V} {d : D} {ds : List D} (r : ROs G F H p (v :: vs) (d :: ds)) : ∃ f fs, p = f ++ fs ∧ RO G F H f v d ∧ ROs G F H fs vs ds := by
  cases r with
  | cons r rs => exact ⟨_, _, rfl, r, rs⟩
theorem ROs.invD {p : List Addr} {vs : List V} {d : D} {ds : List D} (r : ROs G F H p vs (d :: ds)) : ∃ v ws f fs, vs = v :: ws ∧ p = f ++ fs ∧ RO G F H f v d ∧ ROs G F H fs ws ds := by
  cases r with
  | cons r rs => exact ⟨_, _, _, _, rfl, rfl, r, rs⟩
theorem ROs.invN {p : List Addr} {vs : List V} (r : ROs G F H p vs []) : vs = [] ∧ p = [] := by
  cases r
  exact ⟨rfl, rfl⟩
theorem ROs.unconsZ {v : V} {vs : List V} {d : D} {ds : List D} (r : ROs G F H [] (v :: vs) (d :: ds)) : RO G F H [] v d ∧ ROs G F H [] vs ds := by
  obtain ⟨f, fs, e, r1, r2⟩ := r.inv
  obtain ⟨e1, e2⟩ := List.append_eq_nil_iff.mp e.symm
  subst e1 e2
  exact ⟨r1, r2⟩
theorem ROs.get : ∀ {d : List D} {v : List V} {i : Nat} {x : D}, ROs G F H [] v d → d[i]? = some x → ∃ u, v[i]? = some u ∧ RO G F H [] u x
  | [], _, _, _, _, h => by simp at h
  | d :: ds, [], _, _, r, _ => nomatch (r.length)
  | d :: ds, v :: vs, 0, x, r, h => by
    simp at h; subst h
    exact ⟨v, by simp, r.unconsZ.1⟩
  | d :: ds, v :: vs, i + 1, x, r, h => by
    obtain ⟨u, h1, h2⟩ := ROs.get (i := i) (x := x) r.unconsZ.2 (by simpa using h)
    exact ⟨u, by simpa using h1, h2⟩
theorem ROs.consZ {v : V} {vs : List V} {d : D} {ds : List D} (r : RO G F H [] v d) (rs : ROs G F H [] vs ds) : ROs G F H [] (v :: vs) (d :: ds) := ROs.cons r rs
theorem ROs.append : ∀ {p q : List Addr} {v w : List V} {d e : List D}, ROs G F H p v d → ROs G F H q w e → ROs G F H (p ++ q) (v ++ w) (d ++ e)
  | _, _, _, _, _, _, .nil, s => s
  | _, _, _, _, _, _, .cons r rs, s => (ROs.cons r (ROs.append rs s)).cast (List.append_assoc ..).symm
theorem ROs.one {p : List Addr} {v : V} {d : D} (r : RO G F H p v d) : ROs G F H p [v] [d] := (ROs.cons r .nil).cast (List.append_nil _)
end
end EV

/-! EvB: the state, its steps, the readings. -/
namespace EV
open PySem PySem.Spec PyProof.Rows L2

abbrev DEnv := List (Option D)
/-- how an expression ends, a statement, a call -/
inductive RE where
  | ok (d : D) (e : DEnv) | ex (c : Nat) (d : D) (e : DEnv) | no
inductive RS where
  | nx (e : DEnv) | rt (d : D) (e : DEnv) | bk (e : DEnv) | ct (e : DEnv) | ex (c : Nat) (d : D) (e : DEnv) | no
inductive RC where
  | ok (d : D) (fin : List D) | ex (c : Nat) (d : D) (fin : List D) | no
abbrev ME := DEnv → RE
abbrev MS := DEnv → RS

def own (fp : Nat → List Addr) (a : Addr) : Prop := ∃ i, a ∈ fp i
structure SO (G : GI) (F H : Hp) (fp : Nat → List Addr) (σ : L2.St) (e : DEnv) : Prop where
  sub : ∀ a o, F a = some o → H a = some o
  rep : ∀ i d, e[i]? = some (some d) → ∃ v, σ[i]? = some (some v) ∧ RO G F H (fp i) v d
  nd : ∀ i, (fp i).Nodup
  dj : ∀ i j a, a ∈ fp i → a ∈ fp j → i = j
  sep : ∀ i a, a ∈ fp i → F a = none
  th : ∀ i a, a ∈ fp i → ∃ o, H a = some o
  len : σ.length = e.length
structure Tr (F H : Hp) (O : Addr → Prop) (F' H' : Hp) (O' : Addr → Prop) : Prop where
  ff : ∀ a o, F a = some o → F' a = some o
  fr : ∀ a o, ¬ O a → H a = some o → H' a = some o
  ow : ∀ a, O' a → O a ∨ H a = none
  fz : ∀ a o, F' a = some o → F a = some o ∨ O a ∨ H a = none
structure TO (G : GI) (F H : Hp) (fp : Nat → List Addr) (p : List Addr) (v : V) (d : D) : Prop where
  r : RO G F H p v d
  nd : p.Nodup
  sep : ∀ a, a ∈ p → F a = none
  dj : ∀ a, a ∈ p → ¬ own fp a
structure TOs (G : GI) (F H : Hp) (fp : Nat → List Addr) (p : List Addr) (v : List V) (d : List D) : Prop where
  r : ROs G F H p v d
  nd : p.Nodup
  sep : ∀ a, a ∈ p → F a = none
  dj : ∀ a, a ∈ p → ¬ own fp a
section
variable {G : GI} {F H F1 H1 F2 H2 : Hp} {O O1 O2 : Addr → Prop} {fp fp1 fp2 : Nat → List Addr} {p q : List Addr} {v : V} {d : D} {vs : List V} {ds : List D} {σ : L2.St} {e : DEnv}
theorem Tr.refl : Tr F H O F H O := ⟨fun _ _ h => h, fun _ _ _ h => h, fun _ h => .inl h, fun _ _ h => .inl h⟩
theorem Tr.trans (a : Tr F H O F1 H1 O1) (b : Tr F1 H1 O1 F2 H2 O2) : Tr F H O F2 H2 O2 where
  ff := fun c o h => b.ff c o (a.ff c o h)
  fr := fun c o n h => by
    refine b.fr c o (fun z => ?_) (a.fr c o n h)
    rcases a.ow c z with q | q
    · exact n q
    · rw [h] at q; cases q
  ow := fun c h => by
    rcases b.ow c h with q | q
    · exact a.ow c q
    · by_cases z : O c
      · exact .inl z
      · cases r : H c with
        | none => exact .inr rfl
        | some o =>
          have := a.fr c o z r
          rw [q] at this; cases this
  fz := fun c o h => by
    rcases b.fz c o h with q | q | q
    · exact a.fz c o q
    · exact .inr (a.ow c q)
    · by_cases z : O c
      · exact .inr (.inl z)
      · cases r : H c with
        | none => exact .inr (.inr rfl)
        | some o =>
          have := a.fr c o z r
          rw [q] at this; cases this
theorem Tr.weak {P P1 : Addr → Prop} (a : Tr F H O F1 H1 O1) (h : ∀ c, O c → P c) (h1 : ∀ c, P1 c → O1 c ∨ P c) : Tr F H P F1 H1 P1 :=
  ⟨a.ff, fun c o n => a.fr c o fun z => n (h c z), fun c z => (h1 c z).elim (fun z => (a.ow c z).imp (h c) id) .inl, fun c o z => (a.fz c o z).imp id (Or.imp (h c) id)⟩
theorem Tr.drop {P1 : Addr → Prop} (a : Tr F H O F1 H1 O1) (h1 : ∀ c, P1 c → O1 c) : Tr F H O F1 H1 P1 := a.weak (fun _ z => z) fun c z => .inl (h1 c z)
/-- a value held meanwhile -/
theorem TO.keep (t : TO G F H fp p v d) (a : Tr F H (own fp) F1 H1 O1) (h : ∀ c, own fp1 c → O1 c) : TO G F1 H1 fp1 p v d where
  r := t.r.mono a.ff fun c z o => a.fr c o (t.dj c z)
  nd := t.nd
  sep := fun c z => by
    cases r : F1 c with
    | none => rfl
    | some o =>
      obtain ⟨u, hu⟩ := t.r.there c z
      rcases a.fz c o r with q | q | q
      · rw [t.sep c z] at q; cases q
      · exact absurd q (t.dj c z)
      · rw [hu] at q; cases q
  dj := fun c z w => by
    obtain ⟨u, hu⟩ := t.r.there c z
    rcases a.ow c (h c w) with q | q
    · exact t.dj c z q
    · rw [hu] at q; cases q
theorem TOs.keep (t : TOs G F H fp p vs ds) (a : Tr F H (own fp) F1 H1 O1) (h : ∀ c, own fp1 c → O1 c) : TOs G F1 H1 fp1 p vs ds where
  r := t.r.mono a.ff fun c z o => a.fr c o (t.dj c z)
  nd := t.nd
  sep := fun c z => by
    cases r : F1 c with
    | none => rfl
    | some o =>
      obtain ⟨u, hu⟩ := t.r.there c z
      rcases a.fz c o r with q | q | q
      · rw [t.sep c z] at q; cases q
      · exact absurd q (t.dj c z)
      · rw [hu] at q; cases q
  dj := fun c z w => by
    obtain ⟨u, hu⟩ := t.r.there c z
    rcases a.ow c (h c w) with q | q
    · exact t.dj c z q
    · rw [hu] at q; cases q
/-- what is not held either -/
theorem TO.apart (t : TO G F H fp p v d) (a : Tr F H (own fp) F1 H1 O1) (h : ∀ c, c ∈ q → O1 c) : ∀ c, c ∈ p → c ∈ q → False := fun c z w => by
  obtain ⟨u, hu⟩ := t.r.there c z
  rcases a.ow c (h c w) with r | r
  · exact t.dj c z r
  · rw [hu] at r; cases r
theorem TOs.apart (t : TOs G F H fp p vs ds) (a : Tr F H (own fp) F1 H1 O1) (h : ∀ c, c ∈ q → O1 c) : ∀ c, c ∈ p → c ∈ q → False := fun c z w => by
  obtain ⟨u, hu⟩ := t.r.there c z
  rcases a.ow c (h c w) with r | r
  · exact t.dj c z r
  · rw [hu] at r; cases r
/-- shared heap with one's own too -/
def addF (F H : Hp) (p : List Addr) : Hp := fun a => if a ∈ p then H a else F a
theorem addF_le (hs : ∀ a, a ∈ p → F a = none) : ∀ a o, F a = some o → addF F H p a = some o := fun a o h => by
  unfold addF
  split
  · rename_i z; rw [hs a z] at h; cases h
  · exact h
theorem addF_at : ∀ a, a ∈ p → ∀ o, H a = some o → addF F H p a = some o := fun a z o h => by
  unfold addF; rw [if_pos z]; exact h
theorem addF_sub (hF : ∀ a o, F a = some o → H a = some o) : ∀ a o, addF F H p a = some o → H a = some o := fun a o h => by
  unfold addF at h
  split at h
  · exact h
  · exact hF a o h
/-- a value becomes shared: the state then -/
theorem SO.share (s : SO G F H fp σ e) (hp : ∀ a, a ∈ p → F a = none) (hd : ∀ a, a ∈ p → ¬ own fp a) : SO G (addF F H p) H fp σ e where
  sub := addF_sub s.sub
  rep := fun i d h => by
    obtain ⟨v, h1, r⟩ := s.rep i d h
    exact ⟨v, h1, r.mono (addF_le hp) fun _ _ _ z => z⟩
  nd := s.nd
  dj := s.dj
  sep := fun i a z => by
    unfold addF
    rw [if_neg fun w => hd a w ⟨i, z⟩]
    exact s.sep i a z
  th := s.th
  len := s.len
theorem TO.share (t : TO G F H fp p v d) : RO G (addF F H p) H [] v (frz d) := t.r.frz (addF_le t.sep) fun a z o => addF_at a z o
theorem Tr.share (hp : ∀ a, a ∈ p → F a = none) : Tr F H (fun a => O a ∨ a ∈ p) (addF F H p) H O where
  ff := addF_le hp
  fr := fun _ _ _ h => h
  ow := fun _ h => .inl (.inl h)
  fz := fun a o h => by
    unfold addF at h
    split at h
    · rename_i z; exact .inr (.inl (.inr z))
    · exact .inl h
theorem TO.z {v : V} {d : D} (r : RO G F H [] v d) : TO G F H fp [] v d := ⟨r, List.nodup_nil, fun _ z => (nomatch z), fun _ z => (nomatch z)⟩
theorem TOs.z {v : List V} {d : List D} (r : ROs G F H [] v d) : TOs G F H fp [] v d := ⟨r, List.nodup_nil, fun _ z => (nomatch z), fun _ z => (nomatch z)⟩

/-! ### slots -/
/-- a slot's content becomes shared -/
theorem SO.shareAt {i : Nat} {d : D} (s : SO G F H fp σ e) (h : e[i]? = some (some d)) : SO G (addF F H (fp i)) H (fun j => if j = i then [] else fp j) σ (e.set i (some (frz d))) where
  sub := addF_sub s.sub
  rep := fun j x hx => by
    by_cases hj : j = i
    · subst hj
      have hi : j < e.length := (List.getElem?_eq_some_iff.mp h).1
      rw [List.getElem?_set_self hi] at hx
      cases hx
      obtain ⟨v, h1, r⟩ := s.rep j d h
      refine ⟨v, h1, ?_⟩
      rw [if_pos rfl]
      exact r.frz (addF_le (s.sep j)) fun a z o => addF_at a z o
    · rw [List.getElem?_set_ne (Ne.symm hj)] at hx
      obtain ⟨v, h1, r⟩ := s.rep j x hx
      refine ⟨v, h1, ?_⟩
      rw [if_neg hj]
      exact r.mono (addF_le (s.sep i)) fun _ _ _ z => z
  nd := fun j => by
    split
    · exact List.nodup_nil
    · exact s.nd j
  dj := fun j k a h1 h2 => by
    split at h1
    · cases h1
    · split at h2
      · cases h2
      · exact s.dj j k a h1 h2
  sep := fun j a z => by
    split at z
    · cases z
    · rename_i hj
      unfold addF
      rw [if_neg fun w => hj (s.dj j i a z w)]
      exact s.sep j a z
  th := fun j a z => by
    split at z
    · cases z
    · exact s.th j a z
  len := by rw [List.length_set]; exact s.len
theorem Tr.shareAt {i : Nat} (hp : ∀ a, a ∈ fp i → F a = none) : Tr F H (own fp) (addF F H (fp i)) H (own fun j => if j = i then [] else fp j) where
  ff := addF_le hp
  fr := fun _ _ _ h => h
  ow := fun a ⟨j, h⟩ => by
    dsimp only at h
    split at h
    · cases h
    · exact .inl ⟨j, h⟩
  fz := fun a o h => by
    unfold addF at h
    split at h
    · rename_i z; exact .inr (.inl ⟨i, z⟩)
    · exact .inl h
/-- a slot is forgotten -/
theorem SO.forget {i : Nat} (s : SO G F H fp σ e) : SO G F H (fun j => if j = i then [] else fp j) σ (e.set i none) where
  sub := s.sub
  rep := fun j x hx => by
    by_cases hj : j = i
    · subst hj
      by_cases hi : j < e.length
      · rw [List.getElem?_set_self hi] at hx; cases hx
      · rw [List.getElem?_eq_none (by simpa using hi)] at hx; cases hx
    · rw [List.getElem?_set_ne (Ne.symm hj)] at hx
      obtain ⟨v, h1, r⟩ := s.rep j x hx
      exact ⟨v, h1, by rw [if_neg hj]; exact r⟩
  nd := fun j => by
    split
    · exact List.nodup_nil
    · exact s.nd j
  dj := fun j k a h1 h2 => by
    split at h1
    · cases h1
    · split at h2
      · cases h2
      · exact s.dj j k a h1 h2
  sep := fun j a z => by
    split at z
    · cases z
    · exact s.sep j a z
  th := fun j a z => by
    split at z
    · cases z
    · exact s.th j a z
  len := by rw [List.length_set]; exact s.len
/-- .. and handed on -/
theorem SO.take {i : Nat} {d : D} (s : SO G F H fp σ e) (h : e[i]? = some (some d)) : ∃ v, σ[i]? = some (some v) ∧ TO G F H (fun j => if j = i then [] else fp j) (fp i) v d := by
  obtain ⟨v, h1, r⟩ := s.rep i d h
  refine ⟨v, h1, r, s.nd i, s.sep i, fun a z ⟨j, w⟩ => ?_⟩
  dsimp only at w
  split at w
  · cases w
  · rename_i hj
    exact hj (s.dj j i a w z)
theorem own_take {i : Nat} : ∀ a, (own (fun j => if j = i then [] else fp j) a ∨ a ∈ fp i) → own fp a := fun a h => by
  rcases h with ⟨j, h⟩ | h
  · dsimp only at h
    split at h
    · cases h
    · exact ⟨j, h⟩
  · exact ⟨i, h⟩
/-- a value is stored in a slot -/
theorem SO.store {i : Nat} (s : SO G F H fp σ e) (t : TO G F H fp p v d) : SO G F H (fun j => if j = i then p else fp j) (σ.set i (some v)) (e.set i (some d)) where
  sub := s.sub
  rep := fun j x hx => by
    by_cases hj : j = i
    · subst hj
      have hl : j < e.length := by
        have := (List.getElem?_eq_some_iff.mp hx).1
        simpa using this
      rw [List.getElem?_set_self hl] at hx
      cases hx
      exact ⟨v, List.getElem?_set_self (by rw [s.len]; exact hl), by rw [if_pos rfl]; exact t.r⟩
    · rw [List.getElem?_set_ne (Ne.symm hj)] at hx
      obtain ⟨w, h1, r⟩ := s.rep j x hx
      exact ⟨w, by rw [List.getElem?_set_ne (Ne.symm hj)]; exact h1, by rw [if_neg hj]; exact r⟩
  nd := fun j => by
    split
    · exact t.nd
    · exact s.nd j
  dj := fun j k a h1 h2 => by
    split at h1
    · rename_i hj
      split at h2
      · rename_i hk; rw [hj, hk]
      · exact absurd ⟨k, h2⟩ (t.dj a h1)
    · split at h2
      · exact absurd ⟨j, h1⟩ (t.dj a h2)
      · exact s.dj j k a h1 h2
  sep := fun j a z => by
    split at z
    · exact t.sep a z
    · exact s.sep j a z
  th := fun j a z => by
    split at z
    · exact t.r.there a z
    · exact s.th j a z
  len := by rw [List.length_set, List.length_set]; exact s.len
theorem own_store {i : Nat} : ∀ a, own (fun j => if j = i then p else fp j) a → own fp a ∨ a ∈ p := fun a ⟨j, h⟩ => by
  dsimp only at h
  split at h
  · exact .inr h
  · exact .inl ⟨j, h⟩
end

/-! ### readings -/
abbrev gOf (X : Cx) (g : GF) : GI := ⟨g, X.K⟩
def RdE (G : GI) (W : WX) (m : ME) : TE := fun σ H Q => ∃ F fp e, SO G F H fp σ e ∧ match m e with
  | .ok d e' => ∀ v F' H' fp' p, SO G F' H' fp' σ e' → TO G F' H' fp' p v d → Tr F H (own fp) F' H' (fun a => own fp' a ∨ a ∈ p) → Q v H'
  | .ex c d e' => ∀ dx v F' H' fp' p, SO G F' H' fp' σ e' → TO G F' H' fp' p v d → Tr F H (own fp) F' H' (fun a => own fp' a ∨ a ∈ p) → H' dx = some (.xd [(G.xn c, v)]) → W (.ref (G.ca c)) (some dx) σ H'
  | .no => False
/-- .. its value shared -/
def RdZ (G : GI) (W : WX) (m : ME) : TE := fun σ H Q => ∃ F fp e, SO G F H fp σ e ∧ match m e with
  | .ok d e' => ∀ v F' H' fp', SO G F' H' fp' σ e' → RO G F' H' [] v (frz d) → Tr F H (own fp) F' H' (own fp') → Q v H'
  | .ex c d e' => ∀ dx v F' H' fp' p, SO G F' H' fp' σ e' → TO G F' H' fp' p v d → Tr F H (own fp) F' H' (fun a => own fp' a ∨ a ∈ p) → H' dx = some (.xd [(G.xn c, v)]) → W (.ref (G.ca c)) (some dx) σ H'
  | .no => False
theorem RdZ.to {G : GI} {W : WX} {m : ME} {σ : L2.St} {H : Hp} {Q : VK} (h : RdZ G W m σ H Q) : RdE G W m σ H Q := by
  obtain ⟨F, fp, e, s, h⟩ := h
  refine ⟨F, fp, e, s, ?_⟩
  cases q : m e with
  | ok d e' =>
    rw [q] at h
    intro v F' H' fp' p s' t tr
    exact h v (addF F' H' p) H' fp' (s'.share t.sep t.dj) t.share (tr.trans (Tr.share t.sep))
  | ex c d e' => rw [q] at h; exact h
  | no => rw [q] at h; exact h
theorem PE.imp {X : Cx} {e : Expr} {t u : TE} (h : PE X e t) (i : ∀ σ H Q, u σ H Q → t σ H Q) : PE X e u := ⟨fun pins s σ H Q I q => h.run pins s σ H Q I (i σ H Q q)⟩
theorem PT.imp {X : Cx} {e : Expr} {t u : TT} (h : PT X e t) (i : ∀ σ H Q, u σ H Q → t σ H Q) : PT X e u := ⟨fun pins s σ H Q I q => h.run pins s σ H Q I (i σ H Q q)⟩
theorem PA.imp {X : Cx} {e : List Expr} {t u : TA} (h : PA X e t) (i : ∀ σ H Q, u σ H Q → t σ H Q) : PA X e u := ⟨fun pos pins s σ H Q I q => h.run pos pins s σ H Q I (i σ H Q q)⟩
theorem PS.imp {X : Cx} {e : Stmt} {t u : TS} (h : PS X e t) (i : ∀ D σ H, u D σ H → t D σ H) : PS X e u := ⟨fun pins s σ H D I q => h.run pins s σ H D I (i D σ H q)⟩
theorem PSs.imp {X : Cx} {e : List Stmt} {t u : TS} (h : PSs X e t) (i : ∀ D σ H, u D σ H → t D σ H) : PSs X e u := ⟨fun pins s σ H D I q => h.run pins s σ H D I (i D σ H q)⟩
abbrev SE (X : Cx) (g : GF) (W : WX) (e : Expr) (m : ME) : Prop := PE X e (RdE (gOf X g) W m)
abbrev SZ (X : Cx) (g : GF) (W : WX) (e : Expr) (m : ME) : Prop := PE X e (RdZ (gOf X g) W m)
theorem SE.z {X : Cx} {g : GF} {W : WX} {e : Expr} {m : ME} (h : SE X g W e m) : SZ X g W e m := PE.imp h fun _ _ _ q => q.to

def RE.bind (r : RE) (k : D → DEnv → RE) : RE := match r with
  | .ok d e => k d e
  | .ex c d e => .ex c d e
  | .no => .no
@[simp] theorem RE.bind_ok {d e k} : (RE.ok d e).bind k = k d e := rfl
@[simp] theorem RE.bind_ex {c d e k} : (RE.ex c d e).bind k = .ex c d e := rfl
@[simp] theorem RE.bind_no {k} : RE.no.bind k = .no := rfl
def RE.of (o : Option D) (e : DEnv) : RE := match o with
  | some d => .ok d e
  | none => .no
@[simp] theorem RE.of_some {d e} : RE.of (some d) e = .ok d e := rfl
@[simp] theorem RE.of_none {e} : RE.of none e = .no := rfl
end EV

/-! EvC: operators by plain data, their readings. -/
namespace EV
open PySem PySem.Spec PyProof.Rows L2

/-! ### plain operators -/
def LIM : Nat := 1000000
theorem LIM_line {n : Nat} (h : n ≤ LIM) : n ≤ sizeLine := by rw [sizeLine_eq]; unfold LIM at h; omega
theorem LIM_lineS {n : Nat} (h : n ≤ LIM) : n < sizeLine := by rw [sizeLine_eq]; unfold LIM at h; omega
def mulOk (i j : Int) : Bool := Nat.ble i.natAbs 18446744073709551615 || (Nat.ble j.natAbs 18446744073709551615 || decide (i.natAbs.log2 + j.natAbs.log2 < 1000000))
def divOk (j : Int) : Bool := decide (j.natAbs < 1073741824) || decide (j.natAbs.log2 < 9000)
def addD : D → D → Option D
  | .int i, .int j => some (.int (i + j))
  | .lst _ xs, .lst _ ys => if xs.length + ys.length ≤ LIM then some (.lst true (xs ++ ys)) else none
  | .tup xs, .tup ys => if xs.length + ys.length ≤ LIM then some (.tup (xs ++ ys)) else none
  | _, _ => none
def subD : D → D → Option D
  | .int i, .int j => some (.int (i - j))
  | _, _ => none
def mulD : D → D → Option D
  | .int i, .int j => if mulOk i j then some (.int (i * j)) else none
  | .lst _ xs, .int k => if Nat.ble k.natAbs 9223372036854775807 = true ∧ xs.length * k.toNat ≤ LIM then some (.lst true (List.replicate k.toNat xs).flatten) else none
  | _, _ => none
def fdivD : D → D → Option D
  | .int i, .int j => if 0 < j then (if divOk j then some (.int (i / j)) else none) else if j = 0 then none else if divOk j then some (.int (i.fdiv j)) else none
  | _, _ => none
def modD : D → D → Option D
  | .int i, .int j => if 0 < j then some (.int (i % j)) else if j = 0 then none else some (.int (i.fmod j))
  | _, _ => none
def powD : D → D → Option D
  | .int i, .int j => if 0 ≤ j ∧ Nat.ble j.natAbs 1000000 = true ∧ Nat.ble i.natAbs 18446744073709551615 = true then some (.int (i ^ j.toNat)) else none
  | _, _ => none
def negD : D → Option D
  | .int i => some (.int (-i))
  | _ => none
def cmpD (f : Int → Int → Bool) : D → D → Option D
  | .int i, .int j => some (.bl (f i j))
  | _, _ => none
def isN : D → Bool
  | .non => true
  | _ => false
def isB (b : Bool) : D → Bool
  | .bl c => c == b
  | _ => false
/-! equality of data -/
mutual
def eqOk : Nat → D → Bool
  | 0, _ => false
  | n + 1, .tup xs => eqOks n xs
  | n + 1, .lst _ xs => eqOks n xs
  | n + 1, .str s => PyData.strOk s
  | n + 1, .non => true
  | n + 1, .bl _ => true
  | n + 1, .int _ => true
  | n + 1, _ => false
def eqOks : Nat → List D → Bool
  | _, [] => true
  | n, d :: ds => eqOk n d && eqOks n ds
end
mutual
def pd : D → PyData
  | .non => .none
  | .bl b => .bool b
  | .int i => .int i
  | .str s => .str s
  | .tup xs => .tuple (pds xs)
  | .lst _ xs => .list (pds xs)
  | _ => .none
def pds : List D → List PyData
  | [] => []
  | d :: ds => pd d :: pds ds
end
mutual
def eqvD : D → D → Bool
  | .non, .non => true
  | .bl a, .bl b => a == b
  | .bl a, .int j => (if a then 1 else 0) == j
  | .int i, .bl b => i == (if b then 1 else 0)
  | .int i, .int j => i == j
  | .str x, .str y => x == y
  | .lst _ xs, .lst _ ys => eqvDs xs ys
  | .tup xs, .tup ys => eqvDs xs ys
  | _, _ => false
def eqvDs : List D → List D → Bool
  | [], [] => true
  | x :: xs, y :: ys => eqvD x y && eqvDs xs ys
  | _, _ => false
end
def eqD (a b : D) : Option D := if eqOk 60 a && eqOk 60 b then some (.bl (eqvD a b)) else none
def neD (a b : D) : Option D := if eqOk 60 a && eqOk 60 b then some (.bl (!eqvD a b)) else none
def keyD : D → Option Key
  | .int i => some (.inl i)
  | .str s => some (.inr s)
  | _ => none
def keysD : List D → Option (List Key)
  | [] => some []
  | d :: ds => (keyD d).bind fun k => (keysD ds).map (k :: ·)
def getK {κ : Type} [DecidableEq κ] (kvs : List (κ × D)) (k : κ) : Option D := (kvs.find? fun kv => decide (kv.1 = k)).map (·.2)
def inD : D → D → Option D
  | a, .lst _ ys => if eqOk 60 a && eqOks 59 ys then some (.bl (ys.any fun z => eqvD z a)) else none
  | a, .dk _ kvs => (keyD a).map fun k => .bl (getK kvs k).isSome
  | .tup ks, .dt _ kvs => (keysD ks).map fun k => .bl (getK kvs k).isSome
  | a, .tup ys => match a with
    | .int i => if ys.all (fun y => match y with | .int _ => true | _ => false) then some (.bl (ys.any fun y => eqvD y (.int i))) else none
    | _ => none
  | _, _ => none
def notD : D → Option D
  | .bl b => some (.bl (!b))
  | _ => none
def ixD : D → D → Option D
  | .tup xs, .int i => atI xs i
  | .lst _ xs, .int i => atI xs i
  | .scr ns, .int i => (atI ns i).map .int
  | .dk _ kvs, a => (keyD a).bind fun k => getK kvs k
  | .dt _ kvs, .tup ks => (keysD ks).bind fun k => getK kvs k
  | _, _ => none
def lenD : D → Option D
  | .tup xs => some (.int xs.length)
  | .lst _ xs => some (.int xs.length)
  | .scr xs => some (.int xs.length)
  | _ => none
def absD : D → Option D
  | .int i => some (.int (if i < 0 then -i else i))
  | _ => none
def intD : D → Option D
  | .int i => some (.int i)
  | .bl k => some (.int (if k then 1 else 0))
  | _ => none
def max2D : D → D → Option D
  | .int i, .int j => some (.int (if j > i then j else i))
  | _, _ => none
def min2D : D → D → Option D
  | .int i, .int j => some (.int (if j < i then j else i))
  | _, _ => none
def tupleD : D → Option D
  | .tup xs => some (.tup xs)
  | .lst _ xs => some (.tup xs)
  | _ => none
def listD : D → Option D
  | .tup xs => some (.lst true xs)
  | .lst _ xs => some (.lst true xs)
  | .scr xs => some (.lst true (xs.map .int))
  | _ => none
def intsD : List D → Option (List Int)
  | [] => some []
  | .int i :: ds => (intsD ds).map (i :: ·)
  | _ :: _ => none
def blsD : List D → Option (List Bool)
  | [] => some []
  | .bl i :: ds => (blsD ds).map (i :: ·)
  | _ :: _ => none
def sumD : D → Option D
  | .lst _ xs => (intsD xs).map fun ns => .int ns.sum
  | .tup xs => none
  | _ => none
def maxL : List Int → Int
  | [] => 0
  | [a] => a
  | a :: b :: r => if maxL (b :: r) < a then a else maxL (b :: r)
def minL : List Int → Int
  | [] => 0
  | [a] => a
  | a :: b :: r => if a < minL (b :: r) then a else minL (b :: r)
def max1D : D → Option D
  | .lst _ xs => (intsD xs).bind fun ns => if 0 < ns.length then some (.int (maxL ns)) else none
  | _ => none
def min1D : D → Option D
  | .lst _ xs => (intsD xs).bind fun ns => if 0 < ns.length then some (.int (minL ns)) else none
  | _ => none
def allD : D → Option D
  | .lst _ xs => (blsD xs).map fun bs => .bl (bs.all id)
  | _ => none
def anyD : D → Option D
  | .lst _ xs => (blsD xs).map fun bs => .bl (bs.any id)
  | _ => none
inductive Ty where
  | int | bool | tuple | list | str
def isiD : Ty → D → Option Bool
  | .int, .int _ => some true
  | .int, .bl _ => some true
  | .bool, .bl _ => some true
  | .tuple, .tup _ => some true
  | .list, .lst _ _ => some true
  | .str, .str _ => some true
  | _, .non => some false
  | _, .bl _ => some false
  | _, .int _ => some false
  | _, .str _ => some false
  | _, .tup _ => some false
  | _, .lst _ _ => some false
  | _, _ => none
def truD : D → Option Bool
  | .non => some false
  | .bl b => some b
  | .int i => some (i != 0)
  | .tup xs => some (!xs.isEmpty)
  | .lst _ xs => some (!xs.isEmpty)
  | _ => none

/-! ### what a pure operator hands on -/
structure KR (G : GI) (F H : Hp) (d : D) (Q : VK) : Prop where
  go : ∀ v F' H' p, (∀ a o, F a = some o → F' a = some o) → (∀ a o, H a = some o → H' a = some o) → (∀ a o, F' a = some o → H' a = some o) → (∀ a o, F' a = some o → F a = some o ∨ H a = none) →
    RO G F' H' p v d → p.Nodup → (∀ a, a ∈ p → F' a = none ∧ H a = none) → Q v H'
section
variable {G : GI} {F H F' H' : Hp} {d : D} {Q : VK} {fp : Nat → List Addr} {σ : L2.St} {e : DEnv} {W : WX}
theorem KR.z (k : KR G F H d Q) (s : ∀ a o, F a = some o → H a = some o) {v : V} (r : RO G F H [] v d) : Q v H :=
  k.go v F H [] (fun _ _ h => h) (fun _ _ h => h) s (fun _ _ h => .inl h) r List.nodup_nil fun _ z => nomatch z
theorem upd_le {H : Hp} {a : Addr} {o : HO} (h : H a = none) : ∀ b u, H b = some u → upd H a o b = some u := fun b u e => by rw [upd_ne (ne_of_none e h)]; exact e
/-- a new tuple of shared data -/
theorem KR.tup {ds : List D} (k : KR G F H (.tup ds) Q) (s : ∀ a o, F a = some o → H a = some o) {vs : List V} (r : ROs G F H [] vs ds) {a : Addr} (h : H a = none) : Q (.ref a) (upd H a (.tup vs)) := by
  have hF : F a = none := by
    cases q : F a with
    | none => rfl
    | some o => rw [s a o q] at h; cases h
  refine k.go _ (upd F a (.tup vs)) _ [] (upd_le hF) (upd_le h) (fun b o q => ?_) (fun b o q => ?_) (.tup upd_same (r.monoZ (upd_le hF))) List.nodup_nil fun _ z => nomatch z
  · by_cases e : b = a
    · subst e; rw [upd_same] at q ⊢; exact q
    · rw [upd_ne e] at q ⊢; exact s b o q
  · by_cases e : b = a
    · subst e; exact .inr h
    · rw [upd_ne e] at q; exact .inl q
/-- a new list of shared data -/
theorem KR.lst {ds : List D} (k : KR G F H (.lst true ds) Q) (s : ∀ a o, F a = some o → H a = some o) {vs : List V} (r : ROs G F H [] vs ds) {a : Addr} (h : H a = none) : Q (.ref a) (upd H a (.lst vs)) := by
  have hF : F a = none := by
    cases q : F a with
    | none => rfl
    | some o => rw [s a o q] at h; cases h
  refine k.go _ F _ [a] (fun _ _ h => h) (upd_le h) (fun b o q => upd_le h b o (s b o q)) (fun b o q => .inl q) (RO.lo upd_same (r.monoZ fun _ _ h => h)) (by simp) fun b z => ?_
  have e : b = a := by simpa using z
  subst e
  exact ⟨hF, h⟩
theorem SO.grow (s : SO G F H fp σ e) (h1 : ∀ a o, F a = some o → F' a = some o) (h2 : ∀ a o, H a = some o → H' a = some o) (h3 : ∀ a o, F' a = some o → H' a = some o) (h4 : ∀ a o, F' a = some o → F a = some o ∨ H a = none) : SO G F' H' fp σ e where
  sub := h3
  rep := fun i d h => by
    obtain ⟨v, q, r⟩ := s.rep i d h
    exact ⟨v, q, r.mono h1 fun a _ o z => h2 a o z⟩
  nd := s.nd
  dj := s.dj
  sep := fun i a z => by
    cases q : F' a with
    | none => rfl
    | some o =>
      obtain ⟨u, hu⟩ := s.th i a z
      rcases h4 a o q with w | w
      · rw [s.sep i a z] at w; cases w
      · rw [hu] at w; cases w
  th := fun i a z => by
    obtain ⟨u, hu⟩ := s.th i a z
    exact ⟨u, h2 a u hu⟩
  len := s.len
/-- from a state's wish to a pure operator's -/
theorem SO.kr (s : SO G F H fp σ e) (k : ∀ v F' H' fp' p, SO G F' H' fp' σ e → TO G F' H' fp' p v d → Tr F H (own fp) F' H' (fun a => own fp' a ∨ a ∈ p) → Q v H') : KR G F H d Q := by
  refine ⟨fun v F' H' p h1 h2 h3 h4 r nd np => ?_⟩
  refine k v F' H' fp p (s.grow h1 h2 h3 h4) ⟨r, nd, fun a z => (np a z).1, fun a z ⟨i, w⟩ => ?_⟩ ⟨h1, fun a o _ => h2 a o, fun a z => ?_, fun a o z => (h4 a o z).imp id .inr⟩
  · obtain ⟨u, hu⟩ := s.th i a w
    rw [(np a z).2] at hu; cases hu
  · exact z.imp id fun z => (np a z).2
end

/-! ### a view: shared data, or a list or dict of one's own that is only looked at -/
inductive RB (G : GI) (F H : Hp) : V → D → Prop
  | z {v : V} {d : D} : RO G F H [] v d → RB G F H v d
  | l {a : Addr} {vs : List V} {ds : List D} : H a = some (.lst vs) → ROs G F H [] vs ds → RB G F H (.ref a) (.lst false ds)
  | k {a : Addr} {kvs : List (Key × V)} {kds : List (Key × D)} : H a = some (.dK kvs) → kvs.map (·.1) = kds.map (·.1) → ROs G F H [] (kvs.map (·.2)) (kds.map (·.2)) → RB G F H (.ref a) (.dk false kds)
  | t {a : Addr} {kvs : List (List Key × V)} {kds : List (List Key × D)} : H a = some (.dT kvs) → kvs.map (·.1) = kds.map (·.1) → ROs G F H [] (kvs.map (·.2)) (kds.map (·.2)) → RB G F H (.ref a) (.dt false kds)
/-- may it be looked at as it is -/
def vwOk : D → Bool
  | .lst _ xs => fzs xs
  | .dk _ _ => true
  | .dt _ _ => true
  | d => fz d
def vw : D → D
  | .lst _ xs => .lst false xs
  | .dk _ kvs => .dk false kvs
  | .dt _ kvs => .dt false kvs
  | d => d
theorem ROs.toZ {G : GI} {F H : Hp} {p : List Addr} {vs : List V} {ds : List D} (r : ROs G F H p vs ds) (h : fzs ds = true) : ROs G F H [] vs ds := r.cast (r.nil_of_fz h)
theorem RB.of {G : GI} {F H : Hp} {p : List Addr} {v : V} {d : D} (r : RO G F H p v d) (h : vwOk d = true) : RB G F H v (vw d) := by
  cases r with
  | lz e r => exact .z (.lz e r)
  | lo e r => exact .l e (r.toZ h)
  | dkz e k r => exact .z (.dkz e k r)
  | dko e k r => exact .k e k r
  | dtz e k r => exact .z (.dtz e k r)
  | dto e k r => exact .t e k r
  | tup e r => exact .z (.tup e (r.toZ h))
  | non => exact .z .non
  | bl b => exact .z (.bl b)
  | int b => exact .z (.int b)
  | str b => exact .z (.str b)
  | fn b => exact .z (.fn b)
  | scr e => exact .z (.scr e)
theorem RB.mono {G : GI} {F F' H H' : Hp} (hF : ∀ a o, F a = some o → F' a = some o) (hH : ∀ a o, H a = some o → H' a = some o) {v : V} {d : D} (r : RB G F H v d) : RB G F' H' v d := by
  cases r with
  | z r => exact .z (r.monoZ hF)
  | l e r => exact .l (hH _ _ e) (r.monoZ hF)
  | k e q r => exact .k (hH _ _ e) q (r.monoZ hF)
  | t e q r => exact .t (hH _ _ e) q (r.monoZ hF)
inductive Op where
  | v (i : Nat) | e (m : ME)
inductive PV where
  | d (d : D) | v (i : Nat)
inductive RP where
  | ok (p : PV) (e : DEnv) | ex (c : Nat) (d : D) (e : DEnv) | no
def runV (i : Nat) (en : DEnv) : RP := match en[i]? with
    | some (some _) => .ok (.v i) en
    | _ => .no
def runE (m : ME) (en : DEnv) : RP := match m en with
    | .ok x e1 => .ok (.d (frz x)) e1
    | .ex c x e1 => .ex c x e1
    | .no => .no
def Op.run : Op → DEnv → RP
  | .v i => runV i
  | .e m => runE m
def RP.bind (r : RP) (k : PV → DEnv → RE) : RE := match r with
  | .ok p e => k p e
  | .ex c d e => .ex c d e
  | .no => .no
@[simp] theorem RP.bind_ok {d e k} : (RP.ok d e).bind k = k d e := rfl
@[simp] theorem RP.bind_ex {c d e k} : (RP.ex c d e).bind k = .ex c d e := rfl
@[simp] theorem RP.bind_no {k} : RP.no.bind k = .no := rfl
def seeAt (i : Nat) (e : DEnv) (k : D → DEnv → RE) : RE := match e[i]? with
  | some (some d) => if vwOk d = true then k (vw d) e else k (frz d) (e.set i (some (frz d)))
  | _ => .no
def PV.see : PV → DEnv → (D → DEnv → RE) → RE
  | .d x, en, k => k x en
  | .v i, en, k => seeAt i en k
def RdO (G : GI) (W : WX) : Op → TE
  | .v i => tVar i
  | .e m => RdZ G W m
def PVis (G : GI) (F H : Hp) (σ : L2.St) : PV → V → Prop
  | .d dd, x => RO G F H [] x dd
  | .v i, x => σ[i]? = some (some x)
section
variable {G : GI} {F H F' H' : Hp} {fp : Nat → List Addr} {σ : L2.St} {e : DEnv} {W : WX} {Q : VK}
theorem PVis.mono {p : PV} {x : V} (hF : ∀ a o, F a = some o → F' a = some o) (h : PVis G F H σ p x) : PVis G F' H' σ p x := by
  cases p with
  | d d => exact RO.monoZ hF h
  | v i => exact h
/-- what is asked of the ways out by an exception -/
def XOut (G : GI) (W : WX) (σ : L2.St) (F H : Hp) (fp : Nat → List Addr) (c : Nat) (d : D) (e' : DEnv) : Prop :=
  ∀ dx v F' H' fp' p, SO G F' H' fp' σ e' → TO G F' H' fp' p v d → Tr F H (own fp) F' H' (fun a => own fp' a ∨ a ∈ p) → H' dx = some (.xd [(G.xn c, v)]) → W (.ref (G.ca c)) (some dx) σ H'
theorem XOut.trans {F1 H1 : Hp} {fp1 : Nat → List Addr} {c : Nat} {d : D} {e' : DEnv} (h : XOut G W σ F H fp c d e') (t : Tr F H (own fp) F1 H1 (own fp1)) : XOut G W σ F1 H1 fp1 c d e' :=
  fun dx v F' H' fp' p s' t' tr hx => h dx v F' H' fp' p s' t' (t.trans tr) hx
theorem RdO.step (o : Op) (s : SO G F H fp σ e) (k : match o.run e with
    | .ok p e1 => ∀ x F1 H1 fp1, SO G F1 H1 fp1 σ e1 → Tr F H (own fp) F1 H1 (own fp1) → PVis G F1 H1 σ p x → Q x H1
    | .ex c d e1 => XOut G W σ F H fp c d e1
    | .no => False) : RdO G W o σ H Q := by
  cases o with
  | v i =>
    rw [show (Op.v i).run e = runV i e from rfl] at k
    unfold runV at k
    cases q : e[i]? with
    | none => rw [q] at k; exact k.elim
    | some o =>
      cases o with
      | none => rw [q] at k; exact k.elim
      | some d =>
        rw [q] at k
        obtain ⟨v, hv, _⟩ := s.rep i d q
        exact ⟨v, hv, k v F H fp s Tr.refl hv⟩
  | e m =>
    refine ⟨F, fp, e, s, ?_⟩
    rw [show (Op.e m).run e = runE m e from rfl] at k
    unfold runE at k
    cases q : m e with
    | ok d e1 =>
      rw [q] at k
      exact fun v F1 H1 fp1 s1 r1 tr1 => k v F1 H1 fp1 s1 tr1 r1
    | ex c d e1 => rw [q] at k; exact k
    | no => rw [q] at k; exact k
theorem PV.see_ok {p : PV} {x : V} {k : D → DEnv → RE} {R : RE} (s : SO G F H fp σ e) (h : PVis G F H σ p x) (q : p.see e k = R) (hR : R ≠ .no) :
    ∃ d e' F' fp', SO G F' H fp' σ e' ∧ RB G F' H x d ∧ Tr F H (own fp) F' H (own fp') ∧ k d e' = R := by
  cases p with
  | d d => exact ⟨d, e, F, fp, s, .z h, Tr.refl, q⟩
  | v i =>
    have q : seeAt i e k = R := q
    unfold seeAt at q
    cases q2 : e[i]? with
    | none => rw [q2] at q; exact absurd q.symm hR
    | some o =>
      cases o with
      | none => rw [q2] at q; exact absurd q.symm hR
      | some d =>
        rw [q2] at q
        obtain ⟨v, hv, r⟩ := s.rep i d q2
        have hv2 : σ[i]? = some (some x) := h
        rw [hv] at hv2
        cases hv2
        simp only at q
        split at q
        · rename_i hw
          exact ⟨_, _, F, fp, s, RB.of r hw, Tr.refl, q⟩
        · have s2 := s.shareAt q2
          exact ⟨_, _, _, _, s2, .z (r.frz (addF_le (s.sep i)) fun a z o => addF_at a z o), Tr.shareAt (s.sep i), q⟩
end
def mOp1 (f : D → Option D) (oa : Op) : ME := fun e => (oa.run e).bind fun p e1 => p.see e1 fun d e2 => RE.of (f d) e2
def mOp2 (f : D → D → Option D) (oa ob : Op) : ME := fun e => (oa.run e).bind fun p e1 => (ob.run e1).bind fun q e2 => p.see e2 fun d e3 => q.see e3 fun d2 e4 => RE.of (f d d2) e4
section
variable {G : GI} {W : WX} {oa ob : Op} {σ : L2.St} {H : Hp} {Q : VK}
/-- an expression's end -/
def EOut (G : GI) (W : WX) (σ : L2.St) (F H : Hp) (fp : Nat → List Addr) (Q : VK) : RE → Prop
  | .ok d e' => ∀ v F' H' fp' p, SO G F' H' fp' σ e' → TO G F' H' fp' p v d → Tr F H (own fp) F' H' (fun a => own fp' a ∨ a ∈ p) → Q v H'
  | .ex c d e' => XOut G W σ F H fp c d e'
  | .no => False
theorem EOut.trans {F F1 H1 : Hp} {fp fp1 : Nat → List Addr} {r : RE} (h : EOut G W σ F H fp Q r) (t : Tr F H (own fp) F1 H1 (own fp1)) : EOut G W σ F1 H1 fp1 Q r := by
  cases r with
  | ok d e => exact fun v F' H' fp' p s' t' tr => h v F' H' fp' p s' t' (t.trans tr)
  | ex c d e => exact XOut.trans h t
  | no => exact h
theorem EOut.ne {F : Hp} {fp : Nat → List Addr} {r : RE} (h : EOut G W σ F H fp Q r) : r ≠ .no := fun z => by rw [z] at h; exact h
theorem RdE.iff {m : ME} : RdE G W m σ H Q ↔ ∃ F fp e, SO G F H fp σ e ∧ EOut G W σ F H fp Q (m e) := by
  unfold RdE
  constructor
  · rintro ⟨F, fp, e, s, h⟩
    refine ⟨F, fp, e, s, ?_⟩
    cases q : m e with
    | ok d e' => rw [q] at h; exact h
    | ex c d e' => rw [q] at h; exact h
    | no => rw [q] at h; exact h
  · rintro ⟨F, fp, e, s, h⟩
    refine ⟨F, fp, e, s, ?_⟩
    cases q : m e with
    | ok d e' => rw [q] at h; exact h
    | ex c d e' => rw [q] at h; exact h
    | no => rw [q] at h; exact h
theorem rd_op1 {f : D → Option D} {r : V → Hp → VK → Prop} (hr : ∀ F H x d1 d Q, (∀ a o, F a = some o → H a = some o) → RB G F H x d1 → f d1 = some d → KR G F H d Q → r x H Q)
    (h : RdE G W (mOp1 f oa) σ H Q) : RdO G W oa σ H fun x H1 => r x H1 Q := by
  obtain ⟨F, fp, e, s, h⟩ := RdE.iff.mp h
  refine RdO.step oa s ?_
  unfold mOp1 at h
  cases q : oa.run e with
  | ok p e1 =>
    rw [q] at h
    intro x F1 H1 fp1 s1 tr1 v1
    obtain ⟨d1, e2, F2, fp2, s2, b2, tr2, k⟩ := PV.see_ok s1 v1 rfl h.ne
    rw [RP.bind_ok, ← k] at h
    cases q3 : f d1 with
    | none => rw [q3] at h; exact h.elim
    | some d =>
      rw [q3] at h
      exact hr F2 H1 x d1 d Q s2.sub b2 q3 (s2.kr (h.trans (tr1.trans tr2)))
  | ex c d e1 => rw [q] at h; exact h
  | no => rw [q] at h; exact h
theorem rd_op2 {f : D → D → Option D} {r : V → V → Hp → VK → Prop} (hr : ∀ F H x y d1 d2 d Q, (∀ a o, F a = some o → H a = some o) → RB G F H x d1 → RB G F H y d2 → f d1 d2 = some d → KR G F H d Q → r x y H Q)
    (h : RdE G W (mOp2 f oa ob) σ H Q) : RdO G W oa σ H fun x H1 => RdO G W ob σ H1 fun y H2 => r x y H2 Q := by
  obtain ⟨F, fp, e, s, h⟩ := RdE.iff.mp h
  refine RdO.step oa s ?_
  unfold mOp2 at h
  cases q : oa.run e with
  | ok p e1 =>
    rw [q] at h
    intro x F1 H1 fp1 s1 tr1 v1
    rw [RP.bind_ok] at h
    refine RdO.step ob s1 ?_
    cases q2 : ob.run e1 with
    | ok p2 e2 =>
      rw [q2] at h
      intro y F2 H2 fp2 s2 tr2 v2
      rw [RP.bind_ok] at h
      obtain ⟨d1, e3, F3, fp3, s3, b3, tr3, k⟩ := PV.see_ok s2 (v1.mono tr2.ff) rfl h.ne
      rw [← k] at h
      obtain ⟨d2, e4, F4, fp4, s4, b4, tr4, k4⟩ := PV.see_ok s3 (v2.mono tr3.ff) rfl h.ne
      rw [← k4] at h
      cases q3 : f d1 d2 with
      | none => rw [q3] at h; exact h.elim
      | some d =>
        rw [q3] at h
        exact hr F4 H2 x y d1 d2 d Q s4.sub (b3.mono tr4.ff fun _ _ z => z) b4 q3 (s4.kr (h.trans (((tr1.trans tr2).trans tr3).trans tr4)))
    | ex c d e2 => rw [q2] at h; exact XOut.trans h tr1
    | no => rw [q2] at h; exact h
  | ex c d e1 => rw [q] at h; exact h
  | no => rw [q] at h; exact h
end
end EV

/-! EvD: each operator's rule serves its plain reading. -/
namespace EV
open PySem PySem.Spec PyProof.Rows L2
section
variable {X : Cx} {g : GF} {F H : Hp} {x y : V} {d1 d2 d : D} {Q : VK}
abbrev Sb (F H : Hp) : Prop := ∀ a o, F a = some o → H a = some o
theorem RO.int_inv {G : GI} {p : List Addr} {i : Int} (r : RO G F H p x (.int i)) : x = .int i := by cases r; rfl
theorem RO.bl_inv {G : GI} {p : List Addr} {i : Bool} (r : RO G F H p x (.bl i)) : x = .bl i := by cases r; rfl
theorem RO.non_inv {G : GI} {p : List Addr} (r : RO G F H p x .non) : x = .non := by cases r; rfl
theorem RO.str_inv {G : GI} {p : List Addr} {i : Str} (r : RO G F H p x (.str i)) : x = .str i := by cases r; rfl
theorem RO.tup_inv {G : GI} {ds : List D} (r : RO G F H [] x (.tup ds)) : ∃ a vs, x = .ref a ∧ F a = some (.tup vs) ∧ ROs G F H [] vs ds := by
  cases r with
  | tup e r => exact ⟨_, _, rfl, e, r⟩
theorem RO.lst_inv {G : GI} {o : Bool} {ds : List D} (r : RO G F H [] x (.lst o ds)) : o = false ∧ ∃ a vs, x = .ref a ∧ F a = some (.lst vs) ∧ ROs G F H [] vs ds := by
  cases r with
  | lz e r => exact ⟨rfl, _, _, rfl, e, r⟩
theorem RO.scr_inv {G : GI} {ns : List Int} (r : RO G F H [] x (.scr ns)) : ∃ a, x = .ref a ∧ SqL G.K F a (ns.map V.int) := by
  cases r with
  | scr e => exact ⟨_, rfl, e⟩
theorem RO.dk_inv {G : GI} {o : Bool} {kds : List (Key × D)} (r : RO G F H [] x (.dk o kds)) : o = false ∧ ∃ a kvs, x = .ref a ∧ F a = some (.dK kvs) ∧ kvs.map (·.1) = kds.map (·.1) ∧ ROs G F H [] (kvs.map (·.2)) (kds.map (·.2)) := by
  cases r with
  | dkz e k r => exact ⟨rfl, _, _, rfl, e, k, r⟩
theorem RO.dt_inv {G : GI} {o : Bool} {kds : List (List Key × D)} (r : RO G F H [] x (.dt o kds)) : o = false ∧ ∃ a kvs, x = .ref a ∧ F a = some (.dT kvs) ∧ kvs.map (·.1) = kds.map (·.1) ∧ ROs G F H [] (kvs.map (·.2)) (kds.map (·.2)) := by
  cases r with
  | dtz e k r => exact ⟨rfl, _, _, rfl, e, k, r⟩
theorem RB.int_inv {G : GI} {i : Int} (r : RB G F H x (.int i)) : x = .int i := by cases r with | z r => exact r.int_inv
theorem RB.bl_inv {G : GI} {i : Bool} (r : RB G F H x (.bl i)) : x = .bl i := by cases r with | z r => exact r.bl_inv
theorem RB.non_inv {G : GI} (r : RB G F H x .non) : x = .non := by cases r with | z r => exact r.non_inv
theorem RB.str_inv {G : GI} {i : Str} (r : RB G F H x (.str i)) : x = .str i := by cases r with | z r => exact r.str_inv
theorem RB.tup_inv {G : GI} {ds : List D} (r : RB G F H x (.tup ds)) : ∃ a vs, x = .ref a ∧ F a = some (.tup vs) ∧ ROs G F H [] vs ds := by
  cases r with
  | z r => exact r.tup_inv
theorem RB.lst_inv {G : GI} {o : Bool} {ds : List D} (s : Sb F H) (r : RB G F H x (.lst o ds)) : o = false ∧ ∃ a vs, x = .ref a ∧ H a = some (.lst vs) ∧ ROs G F H [] vs ds := by
  cases r with
  | z r =>
    obtain ⟨h1, a, vs, h2, h3, h4⟩ := r.lst_inv
    exact ⟨h1, a, vs, h2, s _ _ h3, h4⟩
  | l e r => exact ⟨rfl, _, _, rfl, e, r⟩
theorem RB.scr_inv {G : GI} {ns : List Int} (r : RB G F H x (.scr ns)) : ∃ a, x = .ref a ∧ SqL G.K F a (ns.map V.int) := by
  cases r with
  | z r => exact r.scr_inv
theorem RB.dk_inv {G : GI} {o : Bool} {kds : List (Key × D)} (s : Sb F H) (r : RB G F H x (.dk o kds)) : o = false ∧ ∃ a kvs, x = .ref a ∧ H a = some (.dK kvs) ∧ kvs.map (·.1) = kds.map (·.1) ∧ ROs G F H [] (kvs.map (·.2)) (kds.map (·.2)) := by
  cases r with
  | z r =>
    obtain ⟨h1, a, vs, h2, h3, h4⟩ := r.dk_inv
    exact ⟨h1, a, vs, h2, s _ _ h3, h4⟩
  | k e q r => exact ⟨rfl, _, _, rfl, e, q, r⟩
theorem RB.dt_inv {G : GI} {o : Bool} {kds : List (List Key × D)} (s : Sb F H) (r : RB G F H x (.dt o kds)) : o = false ∧ ∃ a kvs, x = .ref a ∧ H a = some (.dT kvs) ∧ kvs.map (·.1) = kds.map (·.1) ∧ ROs G F H [] (kvs.map (·.2)) (kds.map (·.2)) := by
  cases r with
  | z r =>
    obtain ⟨h1, a, vs, h2, h3, h4⟩ := r.dt_inv
    exact ⟨h1, a, vs, h2, s _ _ h3, h4⟩
  | t e q r => exact ⟨rfl, _, _, rfl, e, q, r⟩
theorem ints_rep {G : GI} : ∀ {ds : List D} {vs : List V} {ns : List Int}, ROs G F H [] vs ds → intsD ds = some ns → vs = ns.map V.int
  | [], _, ns, r, h => by
    obtain ⟨e, _⟩ := r.invN
    have : ns = [] := by injection h with h; exact h.symm
    rw [e, this]; rfl
  | d :: ds, [], _, r, _ => nomatch r.length
  | d :: ds, v :: vs, ns, r, h => by
    obtain ⟨r1, r2⟩ := r.unconsZ
    cases d with
    | int i =>
      have h2 : (intsD ds).map (i :: ·) = some ns := h
      cases q : intsD ds with
      | none => rw [q] at h2; cases h2
      | some ms =>
        rw [q] at h2
        injection h2 with h2
        rw [← h2, r1.int_inv, ints_rep r2 q]; rfl
    | _ => cases h
theorem bls_rep {G : GI} : ∀ {ds : List D} {vs : List V} {ns : List Bool}, ROs G F H [] vs ds → blsD ds = some ns → vs = ns.map V.bl
  | [], _, ns, r, h => by
    obtain ⟨e, _⟩ := r.invN
    have : ns = [] := by injection h with h; exact h.symm
    rw [e, this]; rfl
  | d :: ds, [], _, r, _ => nomatch r.length
  | d :: ds, v :: vs, ns, r, h => by
    obtain ⟨r1, r2⟩ := r.unconsZ
    cases d with
    | bl i =>
      have h2 : (blsD ds).map (i :: ·) = some ns := h
      cases q : blsD ds with
      | none => rw [q] at h2; cases h2
      | some ms =>
        rw [q] at h2
        injection h2 with h2
        rw [← h2, r1.bl_inv, bls_rep r2 q]; rfl
    | _ => cases h
/-! ### arithmetic -/
theorem hr_cmp {G : GI} {f : Int → Int → Bool} (s : Sb F H) (r1 : RB G F H x d1) (r2 : RB G F H y d2) (h : cmpD f d1 d2 = some d) (k : KR G F H d Q) : rI0 (fun i j => .bl (f i j)) x y H Q := by
  cases d1 <;> first | (cases h; done) | skip
  cases d2 <;> first | (cases h; done) | skip
  injection h with h; subst h
  exact ⟨_, _, r1.int_inv, r2.int_inv, k.z s (.bl _)⟩
theorem hr_add {G : GI} (s : Sb F H) (r1 : RB G F H x d1) (r2 : RB G F H y d2) (h : addD d1 d2 = some d) (k : KR G F H d Q) :
    rI0 (fun i j => .int (i + j)) x y H Q ∨ (rCat x y H Q ∨ rCatA G.K x y H Q) := by
  cases d1 with
  | int i =>
    cases d2 <;> first | (cases h; done) | skip
    injection h with h; subst h
    exact .inl ⟨_, _, r1.int_inv, r2.int_inv, k.z s (.int _)⟩
  | lst o xs =>
    cases d2 <;> first | (cases h; done) | skip
    rename_i o2 ys
    have h : (if xs.length + ys.length ≤ LIM then some (D.lst true (xs ++ ys)) else none) = some d := h
    split at h
    · rename_i hl
      injection h with h; subst h
      obtain ⟨_, a, vs, rfl, ha, ra⟩ := r1.lst_inv s
      obtain ⟨_, b, ws, rfl, hb, rb⟩ := r2.lst_inv s
      refine .inr (.inl ⟨a, b, vs, ws, rfl, rfl, ha, hb, ?_, fun p hp => k.lst s (ra.append rb) hp⟩)
      rw [ra.length, rb.length]; exact LIM_line hl
    · cases h
  | tup xs =>
    cases d2 <;> first | (cases h; done) | skip
    rename_i ys
    have h : (if xs.length + ys.length ≤ LIM then some (D.tup (xs ++ ys)) else none) = some d := h
    split at h
    · rename_i hl
      injection h with h; subst h
      obtain ⟨a, vs, rfl, ha, ra⟩ := r1.tup_inv
      obtain ⟨b, ws, rfl, hb, rb⟩ := r2.tup_inv
      refine .inr (.inr ⟨a, b, vs, ws, rfl, rfl, SqT.of (s _ _ ha), SqT.of (s _ _ hb), ?_, fun e => ?_, fun _ e => ?_, fun _ _ p hp => k.tup s (ra.append rb) hp⟩)
      · rw [ra.length, rb.length]; exact LIM_line hl
      · have hx : xs = [] := by
          have := ra.length
          rw [e] at this
          exact List.length_eq_zero_iff.mp this.symm
        subst hx
        exact k.z s (.tup hb rb)
      · have hx : ys = [] := by
          have := rb.length
          rw [e] at this
          exact List.length_eq_zero_iff.mp this.symm
        subst hx
        rw [List.append_nil] at k
        exact k.z s (.tup ha ra)
    · cases h
  | _ => cases h
theorem hr_sub {G : GI} (s : Sb F H) (r1 : RB G F H x d1) (r2 : RB G F H y d2) (h : subD d1 d2 = some d) (k : KR G F H d Q) : rI0 (fun i j => .int (i - j)) x y H Q := by
  cases d1 <;> first | (cases h; done) | skip
  cases d2 <;> first | (cases h; done) | skip
  injection h with h; subst h
  exact ⟨_, _, r1.int_inv, r2.int_inv, k.z s (.int _)⟩
theorem ROs.rep {G : GI} {ds : List D} {vs : List V} (r : ROs G F H [] vs ds) : ∀ n : Nat, ROs G F H [] (List.replicate n vs).flatten (List.replicate n ds).flatten
  | 0 => .nil
  | n + 1 => by
    rw [List.replicate_succ, List.replicate_succ, List.flatten_cons, List.flatten_cons]
    exact (r.append (ROs.rep r n)).cast rfl
theorem hr_mul {G : GI} (s : Sb F H) (r1 : RB G F H x d1) (r2 : RB G F H y d2) (h : mulD d1 d2 = some d) (k : KR G F H d Q) :
    rI CMul (fun i j => .int (i * j)) x y H Q ∨ (rI CMulW (fun i j => .int (i * j)) x y H Q ∨ rRep x y H Q) := by
  cases d1 with
  | int i =>
    cases d2 <;> first | (cases h; done) | skip
    rename_i j
    have h : (if mulOk i j = true then some (D.int (i * j)) else none) = some d := h
    split at h
    · rename_i hm
      injection h with h; subst h
      have q : Q (.int (i * j)) H := k.z s (.int _)
      unfold mulOk at hm
      rw [Bool.or_eq_true, Bool.or_eq_true, decide_eq_true_eq] at hm
      rcases hm with hm | hm | hm
      · have hm := Nat.le_of_ble_eq_true hm
        exact .inl ⟨_, _, r1.int_inv, r2.int_inv, .inl (by omega), q⟩
      · have hm := Nat.le_of_ble_eq_true hm
        exact .inl ⟨_, _, r1.int_inv, r2.int_inv, .inr (by omega), q⟩
      · exact .inr (.inl ⟨_, _, r1.int_inv, r2.int_inv, hm, q⟩)
    · cases h
  | lst o xs =>
    cases d2 <;> first | (cases h; done) | skip
    rename_i n
    have h : (if Nat.ble n.natAbs 9223372036854775807 = true ∧ xs.length * n.toNat ≤ LIM then some (D.lst true (List.replicate n.toNat xs).flatten) else none) = some d := h
    split at h
    · rename_i hl
      injection h with h; subst h
      obtain ⟨_, a, vs, rfl, ha, ra⟩ := r1.lst_inv s
      have hb := Nat.le_of_ble_eq_true hl.1
      refine .inr (.inr ⟨a, n, vs, rfl, r2.int_inv, ha, by omega, by omega, ?_, fun p hp => k.lst s (ra.rep _) hp⟩)
      rw [ra.length]; exact LIM_line hl.2
    · cases h
  | _ => cases h
theorem divOk_log {j : Int} (h : divOk j = true) : j.natAbs < 1073741824 ∨ j.natAbs.log2 < 9000 := by
  unfold divOk at h
  rw [Bool.or_eq_true, decide_eq_true_eq, decide_eq_true_eq] at h
  exact h
def CDivA (_ j : Int) : Prop := j ≠ 0 ∧ (j.natAbs < 1073741824 ∨ j.natAbs.log2 < 9000)
theorem op_fdivA : OpR X (binaryOp .FloorDiv) (rI CDivA fun i j => .int (i.fdiv j)) := opI fun i j _ _ _ _ _ hc q => by
  rcases hc.2 with h | h
  · exact floordiv_int hc.1 q (.inl (PyProof.noPylong_small h))
  · exact floordiv_int hc.1 q (.inl (PyProof.noPylong_of_log2 h))
theorem hr_fdiv {G : GI} (s : Sb F H) (r1 : RB G F H x d1) (r2 : RB G F H y d2) (h : fdivD d1 d2 = some d) (k : KR G F H d Q) : rI CDivA (fun i j => .int (i.fdiv j)) x y H Q := by
  cases d1 <;> first | (cases h; done) | skip
  cases d2 <;> first | (cases h; done) | skip
  rename_i i j
  have h : (if 0 < j then (if divOk j = true then some (D.int (i / j)) else none) else if j = 0 then none else if divOk j = true then some (D.int (i.fdiv j)) else none) = some d := h
  split at h
  · rename_i hj
    split at h
    · rename_i hd
      injection h with h; subst h
      refine ⟨_, _, r1.int_inv, r2.int_inv, ⟨by omega, divOk_log hd⟩, ?_⟩
      show Q (.int (i.fdiv j)) H
      rw [Int.fdiv_eq_ediv_of_nonneg i (by omega)]
      exact k.z s (.int _)
    · cases h
  · split at h
    · cases h
    · rename_i hj
      split at h
      · rename_i hd
        injection h with h; subst h
        exact ⟨_, _, r1.int_inv, r2.int_inv, ⟨hj, divOk_log hd⟩, k.z s (.int _)⟩
      · cases h
theorem hr_mod {G : GI} (s : Sb F H) (r1 : RB G F H x d1) (r2 : RB G F H y d2) (h : modD d1 d2 = some d) (k : KR G F H d Q) : rI (fun _ j => j ≠ 0) (fun i j => .int (i.fmod j)) x y H Q := by
  cases d1 <;> first | (cases h; done) | skip
  cases d2 <;> first | (cases h; done) | skip
  rename_i i j
  have h : (if 0 < j then some (D.int (i % j)) else if j = 0 then none else some (D.int (i.fmod j))) = some d := h
  split at h
  · injection h with h; subst h
    refine ⟨_, _, r1.int_inv, r2.int_inv, by omega, ?_⟩
    show Q (.int (i.fmod j)) H
    rw [Int.fmod_eq_emod_of_nonneg i (by omega)]
    exact k.z s (.int _)
  · split at h
    · cases h
    · rename_i hj
      injection h with h; subst h
      exact ⟨_, _, r1.int_inv, r2.int_inv, hj, k.z s (.int _)⟩
theorem hr_pow {G : GI} (s : Sb F H) (r1 : RB G F H x d1) (r2 : RB G F H y d2) (h : powD d1 d2 = some d) (k : KR G F H d Q) : rI CPow (fun i j => .int (i ^ j.toNat)) x y H Q := by
  cases d1 <;> first | (cases h; done) | skip
  cases d2 <;> first | (cases h; done) | skip
  rename_i i j
  have h : (if 0 ≤ j ∧ Nat.ble j.natAbs 1000000 = true ∧ Nat.ble i.natAbs 18446744073709551615 = true then some (D.int (i ^ j.toNat)) else none) = some d := h
  split at h
  · rename_i hp
    injection h with h; subst h
    have h1 := Nat.le_of_ble_eq_true hp.2.1
    have h2 := Nat.le_of_ble_eq_true hp.2.2
    exact ⟨_, _, r1.int_inv, r2.int_inv, ⟨hp.1, by omega, by omega⟩, k.z s (.int _)⟩
  · cases h
theorem hr_neg {G : GI} (s : Sb F H) (r1 : RB G F H x d1) (h : negD d1 = some d) (k : KR G F H d Q) : rU (fun i => .int (-i)) x H Q := by
  cases d1 <;> first | (cases h; done) | skip
  injection h with h; subst h
  exact ⟨_, r1.int_inv, k.z s (.int _)⟩
/-! ### is -/
theorem isN_rep {G : GI} (r : RB G F H x d1) : decide (x = .non) = isN d1 := by
  cases r with
  | z r => cases r <;> rfl
  | _ => rfl
theorem hr_isN {G : GI} (s : Sb F H) (r1 : RB G F H x d1) (h : some (D.bl (isN d1)) = some d) (k : KR G F H d Q) : Q (.bl (decide (x = .non))) H := by
  injection h with h; subst h
  rw [isN_rep r1]
  exact k.z s (.bl _)
theorem hr_notN {G : GI} (s : Sb F H) (r1 : RB G F H x d1) (h : some (D.bl (!isN d1)) = some d) (k : KR G F H d Q) : Q (.bl (!decide (x = .non))) H := by
  injection h with h; subst h
  rw [isN_rep r1]
  exact k.z s (.bl _)
theorem op_isC {b : Bool} : OpR X (compareOp .Is) (fun x y H Q => y = .bl b ∧ Q (.bl (decide (x = .bl b))) H) := by
  intro pins s σ H x y v u Q I rx ry h
  obtain ⟨rfl, q⟩ := h
  cases ry
  cases x with
  | bl c =>
    cases (show v = Value.bool c from rx)
    by_cases e : c = b
    · subst e
      exact wpAny_is_self rfl ⟨.bl true, H, I, rfl, by simpa using q⟩
    · exact wpAny_is_other rfl (fun z => e (Value.bool.inj z)) ⟨.bl false, H, I, rfl, by simpa [e] using q⟩
  | non => cases rx; exact wpAny_pure ⟨.bl false, H, I, rfl, by simpa using q⟩
  | int i => obtain ⟨t, rfl⟩ := rx; exact wpAny_pure ⟨.bl false, H, I, rfl, by simpa using q⟩
  | str i => obtain ⟨t, rfl⟩ := rx; exact wpAny_pure ⟨.bl false, H, I, rfl, by simpa using q⟩
  | byt i => obtain ⟨t, rfl⟩ := rx; exact wpAny_pure ⟨.bl false, H, I, rfl, by simpa using q⟩
  | flt i => obtain ⟨t, rfl⟩ := rx; exact wpAny_pure ⟨.bl false, H, I, rfl, by simpa using q⟩
  | ref a => cases rx; exact wpAny_pure ⟨.bl false, H, I, rfl, by simpa using q⟩
  | ty n => cases rx; exact wpAny_pure ⟨.bl false, H, I, rfl, by simpa using q⟩
theorem op_isnotC {b : Bool} : OpR X (compareOp .IsNot) (fun x y H Q => y = .bl b ∧ Q (.bl (!decide (x = .bl b))) H) := by
  intro pins s σ H x y v u Q I rx ry h
  obtain ⟨rfl, q⟩ := h
  cases ry
  cases x with
  | bl c =>
    cases (show v = Value.bool c from rx)
    by_cases e : c = b
    · subst e
      exact wpAny_isNot_self rfl ⟨.bl false, H, I, rfl, by simpa using q⟩
    · exact wpAny_isNot_other rfl (fun z => e (Value.bool.inj z)) ⟨.bl true, H, I, rfl, by simpa [e] using q⟩
  | non => cases rx; exact wpAny_pure ⟨.bl true, H, I, rfl, by simpa using q⟩
  | int i => obtain ⟨t, rfl⟩ := rx; exact wpAny_pure ⟨.bl true, H, I, rfl, by simpa using q⟩
  | str i => obtain ⟨t, rfl⟩ := rx; exact wpAny_pure ⟨.bl true, H, I, rfl, by simpa using q⟩
  | byt i => obtain ⟨t, rfl⟩ := rx; exact wpAny_pure ⟨.bl true, H, I, rfl, by simpa using q⟩
  | flt i => obtain ⟨t, rfl⟩ := rx; exact wpAny_pure ⟨.bl true, H, I, rfl, by simpa using q⟩
  | ref a => cases rx; exact wpAny_pure ⟨.bl true, H, I, rfl, by simpa using q⟩
  | ty n => cases rx; exact wpAny_pure ⟨.bl true, H, I, rfl, by simpa using q⟩
theorem isB_rep {G : GI} {b : Bool} (r : RB G F H x d1) : decide (x = .bl b) = isB b d1 := by
  cases r with
  | z r =>
    cases r <;> first
      | rfl
      | (rename_i c; cases c <;> cases b <;> rfl)
  | _ => rfl
/-! ### equality -/
mutual
theorem dp_of {G : GI} (s : Sb F H) : ∀ (n : Nat) (d : D) {x : V}, RO G F H [] x d → eqOk n d = true → Dp G.K H x (pd d)
  | 0, d, _, _, h => by cases d <;> cases h
  | n + 1, .non, _, r, _ => by rw [r.non_inv]; exact .non
  | n + 1, .bl b, _, r, _ => by rw [r.bl_inv]; exact .bl b
  | n + 1, .int b, _, r, _ => by rw [r.int_inv]; exact .int b
  | n + 1, .str b, _, r, _ => by rw [r.str_inv]; exact .str b
  | n + 1, .tup ds, _, r, h => by
    obtain ⟨a, vs, rfl, e, r⟩ := r.tup_inv
    exact .tup (SqT.of (s _ _ e)) (dps_of s n ds r h)
  | n + 1, .lst o ds, _, r, h => by
    obtain ⟨_, a, vs, rfl, e, r⟩ := r.lst_inv
    exact .lst (SqL.of (s _ _ e)) (dps_of s n ds r h)
  | n + 1, .scr _, _, _, h => by cases h
  | n + 1, .dk _ _, _, _, h => by cases h
  | n + 1, .dt _ _, _, _, h => by cases h
  | n + 1, .fn _, _, _, h => by cases h
theorem dps_of {G : GI} (s : Sb F H) : ∀ (n : Nat) (ds : List D) {vs : List V}, ROs G F H [] vs ds → eqOks n ds = true → DpAll G.K H vs (pds ds)
  | n, [], vs, r, _ => by
    obtain ⟨rfl, _⟩ := r.invN
    exact .nil
  | n, d :: ds, [], r, _ => nomatch r.length
  | n, d :: ds, v :: vs, r, h => by
    have h2 : (eqOk n d && eqOks n ds) = true := by
      cases n <;> exact h
    rw [Bool.and_eq_true] at h2
    obtain ⟨r1, r2⟩ := r.unconsZ
    exact .cons (dp_of s n d r1 h2.1) (dps_of s n ds r2 h2.2)
end
mutual
theorem lay_of : ∀ (n : Nat) (d : D), eqOk n d = true → (pd d).canLay0 = true ∧ (pd d).depth ≤ n
  | 0, d, h => by cases d <;> cases h
  | n + 1, .non, _ => ⟨by simp [pd, PyData.canLay0], by simp [pd, PyData.depth]⟩
  | n + 1, .bl b, _ => ⟨by simp [pd, PyData.canLay0], by simp [pd, PyData.depth]⟩
  | n + 1, .int b, _ => ⟨by simp [pd, PyData.canLay0], by simp [pd, PyData.depth]⟩
  | n + 1, .str b, h => ⟨by simp only [pd, PyData.canLay0]; exact h, by simp [pd, PyData.depth]⟩
  | n + 1, .tup ds, h => by
    obtain ⟨h1, h2⟩ := lays_of n ds h
    refine ⟨by simp only [pd, PyData.canLay0]; exact h1, ?_⟩
    simp only [pd, PyData.depth]
    omega
  | n + 1, .lst o ds, h => by
    obtain ⟨h1, h2⟩ := lays_of n ds h
    refine ⟨by simp only [pd, PyData.canLay0]; exact h1, ?_⟩
    simp only [pd, PyData.depth]
    omega
  | n + 1, .scr _, h => by cases h
  | n + 1, .dk _ _, h => by cases h
  | n + 1, .dt _ _, h => by cases h
  | n + 1, .fn _, h => by cases h
theorem lays_of : ∀ (n : Nat) (ds : List D), eqOks n ds = true → PyData.canLayAll0 (pds ds) = true ∧ PyData.depthAll (pds ds) ≤ n
  | n, [], _ => ⟨by simp [pds, PyData.canLayAll0], by simp [pds, PyData.depthAll]⟩
  | n, d :: ds, h => by
    have h2 : (eqOk n d && eqOks n ds) = true := by
      cases n <;> exact h
    rw [Bool.and_eq_true] at h2
    obtain ⟨a1, a2⟩ := lay_of n d h2.1
    obtain ⟨b1, b2⟩ := lays_of n ds h2.2
    refine ⟨by simp only [pds, PyData.canLayAll0, a1, b1, Bool.and_self], ?_⟩
    simp only [pds, PyData.depthAll]
    omega
end
theorem shaped_of {n : Nat} {d : D} (h : eqOk n d = true) (hn : n ≤ 64) : SeqAt.shaped (pd d) = true := by
  obtain ⟨h1, h2⟩ := lay_of n d h
  unfold SeqAt.shaped
  rw [h1, Bool.true_and, decide_eq_true_eq]
  omega
mutual
theorem eqv_of : ∀ (n : Nat) (a b : D) (m : Nat), eqOk n a = true → eqOk m b = true → PyData.eqv (pd a) (pd b) = eqvD a b
  | 0, d, _, _, h, _ => by cases d <;> cases h
  | _, _, d, 0, _, h => by cases d <;> cases h
  | n + 1, .non, b, m + 1, _, h => by cases b <;> first | (cases h; done) | simp [pd, PyData.eqv, eqvD]
  | n + 1, .bl a, b, m + 1, _, h => by cases b <;> first | (cases h; done) | simp [pd, PyData.eqv, eqvD]
  | n + 1, .int a, b, m + 1, _, h => by cases b <;> first | (cases h; done) | simp [pd, PyData.eqv, eqvD]
  | n + 1, .str a, b, m + 1, _, h => by cases b <;> first | (cases h; done) | simp [pd, PyData.eqv, eqvD]
  | n + 1, .tup xs, b, m + 1, h1, h => by
    cases b with
    | tup ys => simp only [pd, PyData.eqv, eqvD]; exact eqvs_of n xs ys m h1 h
    | non => simp [pd, PyData.eqv, eqvD]
    | bl _ => simp [pd, PyData.eqv, eqvD]
    | int _ => simp [pd, PyData.eqv, eqvD]
    | str _ => simp [pd, PyData.eqv, eqvD]
    | lst _ _ => simp [pd, PyData.eqv, eqvD]
    | _ => cases h
  | n + 1, .lst o xs, b, m + 1, h1, h => by
    cases b with
    | lst o2 ys => simp only [pd, PyData.eqv, eqvD]; exact eqvs_of n xs ys m h1 h
    | non => simp [pd, PyData.eqv, eqvD]
    | bl _ => simp [pd, PyData.eqv, eqvD]
    | int _ => simp [pd, PyData.eqv, eqvD]
    | str _ => simp [pd, PyData.eqv, eqvD]
    | tup _ => simp [pd, PyData.eqv, eqvD]
    | _ => cases h
  | n + 1, .scr _, _, _, h, _ => by cases h
  | n + 1, .dk _ _, _, _, h, _ => by cases h
  | n + 1, .dt _ _, _, _, h, _ => by cases h
  | n + 1, .fn _, _, _, h, _ => by cases h
theorem eqvs_of : ∀ (n : Nat) (a b : List D) (m : Nat), eqOks n a = true → eqOks m b = true → PyData.eqvAll (pds a) (pds b) = eqvDs a b
  | n, [], [], m, _, _ => by simp [pds, PyData.eqvAll, eqvDs]
  | n, [], _ :: _, m, _, _ => by simp [pds, PyData.eqvAll, eqvDs]
  | n, _ :: _, [], m, _, _ => by simp [pds, PyData.eqvAll, eqvDs]
  | n, a :: as, b :: bs, m, h1, h2 => by
    have h3 : (eqOk n a && eqOks n as) = true := by
      cases n <;> exact h1
    have h4 : (eqOk m b && eqOks m bs) = true := by
      cases m <;> exact h2
    rw [Bool.and_eq_true] at h3 h4
    simp only [pds, PyData.eqvAll, eqvDs]
    rw [eqv_of n a b m h3.1 h4.1, eqvs_of n as bs m h3.2 h4.2]
end
theorem dp_ofB {G : GI} (s : Sb F H) {n : Nat} {d : D} (r : RB G F H x d) (h : eqOk n d = true) : Dp G.K H x (pd d) := by
  cases n with
  | zero => cases d <;> cases h
  | succ n =>
    cases r with
    | z r => exact dp_of s _ d r h
    | l e r => exact .lst (SqL.of e) (dps_of s n _ r h)
    | k _ _ _ => cases h
    | t _ _ _ => cases h
theorem hr_eq {G : GI} (s : Sb F H) (r1 : RB G F H x d1) (r2 : RB G F H y d2) (h : eqD d1 d2 = some d) (k : KR G F H d Q) : rEqD G.K x y H Q := by
  unfold eqD at h
  split at h
  · rename_i he
    injection h with h; subst h
    rw [Bool.and_eq_true] at he
    refine ⟨pd d1, pd d2, dp_ofB s r1 he.1, dp_ofB s r2 he.2, shaped_of he.1 (by decide), shaped_of he.2 (by decide), ?_⟩
    rw [eqv_of 60 d1 d2 60 he.1 he.2]
    exact k.z s (.bl _)
  · cases h
theorem hr_ne {G : GI} (s : Sb F H) (r1 : RB G F H x d1) (r2 : RB G F H y d2) (h : neD d1 d2 = some d) (k : KR G F H d Q) : rNeD G.K x y H Q := by
  unfold neD at h
  split at h
  · rename_i he
    injection h with h; subst h
    rw [Bool.and_eq_true] at he
    refine ⟨pd d1, pd d2, dp_ofB s r1 he.1, dp_ofB s r2 he.2, shaped_of he.1 (by decide), shaped_of he.2 (by decide), ?_⟩
    rw [eqv_of 60 d1 d2 60 he.1 he.2]
    exact k.z s (.bl _)
  · cases h
end
end EV

/-! EvE: items, membership, built-ins: each rule serves its plain reading. -/
namespace EV
open PySem PySem.Spec PyProof.Rows L2
section
variable {X : Cx} {g : GF} {F H : Hp} {x y : V} {d1 d2 d : D} {Q : VK}
theorem keyD_rep {G : GI} {k : Key} (r : RB G F H x d1) (h : keyD d1 = some k) : x = kV k := by
  cases d1 <;> first | (cases h; done) | skip
  · injection h with h; subst h; exact r.int_inv
  · injection h with h; subst h; exact r.str_inv
theorem keysD_rep {G : GI} : ∀ {ds : List D} {vs : List V} {ks : List Key}, ROs G F H [] vs ds → keysD ds = some ks → vs = ks.map kV
  | [], vs, ks, r, h => by
    obtain ⟨e, _⟩ := r.invN
    injection h with h; subst h; rw [e]; rfl
  | d :: ds, [], _, r, _ => nomatch r.length
  | d :: ds, v :: vs, ks, r, h => by
    obtain ⟨r1, r2⟩ := r.unconsZ
    have h2 : ((keyD d).bind fun k => (keysD ds).map (k :: ·)) = some ks := h
    cases q : keyD d with
    | none => rw [q] at h2; cases h2
    | some k =>
      rw [q] at h2
      cases q2 : keysD ds with
      | none => rw [q2] at h2; cases h2
      | some ms =>
        rw [q2] at h2
        injection h2 with h2; subst h2
        rw [keyD_rep (.z r1) q, keysD_rep r2 q2]; rfl
theorem getK_rep {κ : Type} [DecidableEq κ] {G : GI} : ∀ {kvs : List (κ × V)} {kds : List (κ × D)} (k : κ), kvs.map (·.1) = kds.map (·.1) → ROs G F H [] (kvs.map (·.2)) (kds.map (·.2)) →
    (valV kvs k = none ∧ getK kds k = none) ∨ ∃ v d, valV kvs k = some v ∧ getK kds k = some d ∧ RO G F H [] v d
  | [], [], k, _, _ => .inl ⟨rfl, rfl⟩
  | [], _ :: _, k, h, _ => by cases h
  | _ :: _, [], k, h, _ => by cases h
  | a :: kvs, b :: kds, k, h, r => by
    have h1 : a.1 = b.1 ∧ kvs.map (·.1) = kds.map (·.1) := by
      simpa using h
    obtain ⟨r1, r2⟩ := r.unconsZ
    by_cases e : b.1 = k
    · refine .inr ⟨a.2, b.2, valV_pos (h1.1.trans e), ?_, r1⟩
      unfold getK
      rw [List.find?_cons, decide_eq_true e]; rfl
    · rw [valV_neg (p := a) (fun z => e (h1.1.symm.trans z))]
      have e2 : getK (b :: kds) k = getK kds k := by
        unfold getK
        rw [List.find?_cons, decide_eq_false e]
      rw [e2]
      exact getK_rep k h1.2 r2
theorem getK_some {κ : Type} [DecidableEq κ] {G : GI} {kvs : List (κ × V)} {kds : List (κ × D)} {k : κ} (h : kvs.map (·.1) = kds.map (·.1)) (r : ROs G F H [] (kvs.map (·.2)) (kds.map (·.2))) : (valV kvs k).isSome = (getK kds k).isSome := by
  rcases getK_rep k h r with ⟨a, b⟩ | ⟨v, d, a, b, _⟩ <;> rw [a, b] <;> rfl
/-! ### in -/
theorem op_inDk (hu : X.A.units + 1 < cLine) : OpR X (compareOp .In) (fun x y H Q => ∃ a o, y = .ref a ∧ DGet H a x o ∧ Q (.bl o.isSome) H) := by
  intro pins s σ H x y v u Q I rx ry h
  obtain ⟨a, o, rfl, gd, q⟩ := h
  cases (show u = Value.ref a from ry)
  exact d_in hu I gd rx fun s' I' => ⟨.bl o.isSome, H, I', rfl, q⟩
theorem op_notinDk (hu : X.A.units + 1 < cLine) : OpR X (compareOp .NotIn) (fun x y H Q => ∃ a o, y = .ref a ∧ DGet H a x o ∧ Q (.bl (!o.isSome)) H) := by
  intro pins s σ H x y v u Q I rx ry h
  obtain ⟨a, o, rfl, gd, q⟩ := h
  cases (show u = Value.ref a from ry)
  exact d_notIn hu I gd rx fun s' I' => ⟨.bl (!o.isSome), H, I', rfl, q⟩
theorem any_eqv {n : Nat} (h1 : eqOk 60 d1 = true) : ∀ (ds : List D), eqOks n ds = true → (pds ds).any (fun z => PyData.eqv z (pd d1)) = ds.any fun z => eqvD z d1
  | [], _ => rfl
  | d :: ds, h => by
    have h2 : (eqOk n d && eqOks n ds) = true := by
      cases n <;> exact h
    rw [Bool.and_eq_true] at h2
    show (PyData.eqv (pd d) (pd d1) || (pds ds).any _) = (eqvD d d1 || ds.any _)
    rw [eqv_of n d d1 60 h2.1 h1, any_eqv h1 ds h2.2]
theorem flat_ints {G : GI} : ∀ {ds : List D} {vs : List V}, ROs G F H [] vs ds → (ds.all fun y => match y with | .int _ => true | _ => false) = true → vs.all flatV = true ∧ ∀ i, (vs.any fun y => eqV y (.int i)) = ds.any fun y => eqvD y (.int i)
  | [], vs, r, _ => by
    obtain ⟨e, _⟩ := r.invN
    subst e; exact ⟨rfl, fun _ => rfl⟩
  | d :: ds, [], r, _ => nomatch r.length
  | d :: ds, v :: vs, r, h => by
    obtain ⟨r1, r2⟩ := r.unconsZ
    cases d with
    | int j =>
      obtain ⟨h1, h2⟩ := flat_ints r2 (by simpa using h)
      rw [r1.int_inv]
      refine ⟨?_, fun i => ?_⟩
      · show (flatV (.int j) && vs.all flatV) = true
        rw [h1]; rfl
      · show (eqV (.int j) (.int i) || vs.any _) = (eqvD (.int j) (.int i) || ds.any _)
        rw [h2 i]
        congr 1
    | _ => simp at h
theorem hr_in {G : GI} {n : Bool} (s : Sb F H) (r1 : RB G F H x d1) (r2 : RB G F H y d2) (h : inD d1 d2 = some (.bl n)) :
    (∃ d ds, Dp G.K H x d ∧ Dp G.K H y (.list ds) ∧ SeqAt.shaped d = true ∧ SeqAt.shaped (.list ds) = true ∧ (ds.any fun z => PyData.eqv z d) = n) ∨
    ((∃ p xs, y = .ref p ∧ (SqL G.K H p xs ∨ SqT G.K H p xs) ∧ flatV x = true ∧ xs.all flatV = true ∧ inV x xs = n) ∨ ∃ a o, y = .ref a ∧ DGet H a x o ∧ o.isSome = n) := by
  cases d2 with
  | lst o ys =>
    have h : (if eqOk 60 d1 && eqOks 59 ys then some (D.bl (ys.any fun z => eqvD z d1)) else none) = some (.bl n) := by
      cases d1 <;> exact h
    split at h
    · rename_i he
      injection h with h
      injection h with h
      rw [Bool.and_eq_true] at he
      refine .inl ⟨pd d1, pds ys, dp_ofB s r1 he.1, ?_, shaped_of he.1 (by decide), shaped_of (n := 60) (d := .lst o ys) he.2 (by decide), (any_eqv he.1 ys he.2).trans h⟩
      exact dp_ofB (n := 60) (d := .lst o ys) s r2 he.2
    · cases h
  | dk o kds =>
    have h : ((keyD d1).map fun k => D.bl (getK kds k).isSome) = some (.bl n) := by
      cases d1 <;> exact h
    cases q : keyD d1 with
    | none => rw [q] at h; cases h
    | some k =>
      rw [q] at h
      injection h with h
      injection h with h
      obtain ⟨_, a, kvs, rfl, ha, hk, rk⟩ := r2.dk_inv s
      rw [keyD_rep r1 q]
      exact .inr (.inr ⟨a, _, rfl, DGet.k ha, by rw [getK_some hk rk]; exact h⟩)
  | dt o kds =>
    cases d1 with
    | tup ks =>
      have h : ((keysD ks).map fun k => D.bl (getK kds k).isSome) = some (.bl n) := h
      cases q : keysD ks with
      | none => rw [q] at h; cases h
      | some k =>
        rw [q] at h
        injection h with h
        injection h with h
        obtain ⟨_, a, kvs, rfl, ha, hk, rk⟩ := r2.dt_inv s
        obtain ⟨b, vs, rfl, hb, rb⟩ := r1.tup_inv
        rw [keysD_rep rb q] at hb
        exact .inr (.inr ⟨a, _, rfl, DGet.t ha (s _ _ hb), by rw [getK_some hk rk]; exact h⟩)
    | _ => cases h
  | tup ys =>
    cases d1 with
    | int i =>
      have h : (if ys.all (fun y => match y with | .int _ => true | _ => false) then some (D.bl (ys.any fun y => eqvD y (.int i))) else none) = some (.bl n) := h
      split at h
      · rename_i he
        injection h with h
        injection h with h
        obtain ⟨b, vs, rfl, hb, rb⟩ := r2.tup_inv
        obtain ⟨f1, f2⟩ := flat_ints rb he
        rw [r1.int_inv]
        exact .inr (.inl ⟨b, vs, rfl, .inr (SqT.of (s _ _ hb)), rfl, f1, (f2 i).trans h⟩)
      · cases h
    | _ => cases h
  | _ => cases d1 <;> cases h
/-! ### items -/
theorem ix_dict (hu : X.A.units + 1 < cLine) : IxR X (fun x y H Q => ∃ a v, x = .ref a ∧ DGet H a y (some v) ∧ Q v H) := by
  intro value slice pins s σ H x y v u Q I rx ry h hs
  obtain ⟨a, z, rfl, gd, q⟩ := h
  cases rx
  exact tail_any (dict_typeIs I gd) PySem.F.slot_dict_getitem.lookup (d_getItem hu I gd ry fun w' s3 I3 rw' => ⟨z, H, I3, rw', q⟩) hs
theorem ROs.at_ {G : GI} {vs : List V} {ds : List D} (r : ROs G F H [] vs ds) {i : Int} (h : atI ds i = some d) : ∃ u, atI vs i = some u ∧ RO G F H [] u d := by
  unfold atI at h ⊢
  rw [r.length]
  cases q : ixN ds.length i with
  | none => rw [q] at h; cases h
  | some j =>
    rw [q] at h
    exact r.get h
theorem atI_map {α β : Type} (f : α → β) (xs : List α) (i : Int) : atI (xs.map f) i = (atI xs i).map f := by
  unfold atI
  rw [List.length_map]
  cases ixN xs.length i with
  | none => rfl
  | some j => simp
theorem hr_ix {G : GI} (s : Sb F H) (r1 : RB G F H x d1) (r2 : RB G F H y d2) (h : ixD d1 d2 = some d) (k : KR G F H d Q) :
    rIxL G.K x y H Q ∨ (rIxT G.K x y H Q ∨ ∃ a v, x = .ref a ∧ DGet H a y (some v) ∧ Q v H) := by
  cases d1 with
  | tup xs =>
    cases d2 <;> first | (cases h; done) | skip
    rename_i i
    obtain ⟨a, vs, rfl, ha, ra⟩ := r1.tup_inv
    obtain ⟨u, hu, ru⟩ := ra.at_ (i := i) (d := d) h
    exact .inr (.inl ⟨a, vs, i, u, rfl, r2.int_inv, SqT.of (s _ _ ha), hu, k.z s ru⟩)
  | lst o xs =>
    cases d2 <;> first | (cases h; done) | skip
    rename_i i
    obtain ⟨_, a, vs, rfl, ha, ra⟩ := r1.lst_inv s
    obtain ⟨u, hu, ru⟩ := ra.at_ (i := i) (d := d) h
    exact .inl ⟨a, vs, i, u, rfl, r2.int_inv, SqL.of ha, hu, k.z s ru⟩
  | scr ns =>
    cases d2 <;> first | (cases h; done) | skip
    rename_i i
    obtain ⟨a, rfl, ha⟩ := r1.scr_inv
    have h : (atI ns i).map D.int = some d := h
    cases q : atI ns i with
    | none => rw [q] at h; cases h
    | some n =>
      rw [q] at h
      injection h with h; subst h
      exact .inl ⟨a, _, i, .int n, rfl, r2.int_inv, SqL.le ha s, by rw [atI_map, q]; rfl, k.z s (.int n)⟩
  | dk o kds =>
    have h : ((keyD d2).bind fun k => getK kds k) = some d := by
      cases d2 <;> exact h
    cases q : keyD d2 with
    | none => rw [q] at h; cases h
    | some key =>
      rw [q] at h
      have h : getK kds key = some d := h
      obtain ⟨_, a, kvs, rfl, ha, hk, rk⟩ := r1.dk_inv s
      rcases getK_rep key hk rk with ⟨_, z⟩ | ⟨u, e, z1, z2, ru⟩
      · rw [z] at h; cases h
      · rw [z2] at h
        injection h with h; subst h
        rw [keyD_rep r2 q]
        exact .inr (.inr ⟨a, u, rfl, by rw [← z1]; exact DGet.k ha, k.z s ru⟩)
  | dt o kds =>
    cases d2 <;> first | (cases h; done) | skip
    rename_i ks
    have h : ((keysD ks).bind fun k => getK kds k) = some d := h
    cases q : keysD ks with
    | none => rw [q] at h; cases h
    | some key =>
      rw [q] at h
      have h : getK kds key = some d := h
      obtain ⟨_, a, kvs, rfl, ha, hk, rk⟩ := r1.dt_inv s
      obtain ⟨b, vs, rfl, hb, rb⟩ := r2.tup_inv
      rw [keysD_rep rb q] at hb
      rcases getK_rep key hk rk with ⟨_, z⟩ | ⟨u, e, z1, z2, ru⟩
      · rw [z] at h; cases h
      · rw [z2] at h
        injection h with h; subst h
        exact .inr (.inr ⟨a, u, rfl, by rw [← z1]; exact DGet.t ha (s _ _ hb), k.z s ru⟩)
  | _ => cases d2 <;> cases h
/-! ### built-ins -/
theorem hr_len {G : GI} (s : Sb F H) (r1 : RB G F H x d1) (h : lenD d1 = some d) (k : KR G F H d Q) : ∃ n, LenV G.K x H n ∧ Q (.int n) H := by
  cases d1 <;> first | (cases h; done) | skip
  · injection h with h; subst h
    obtain ⟨a, vs, rfl, ha, ra⟩ := r1.tup_inv
    exact ⟨vs.length, .inr ⟨vs, SqT.of (s _ _ ha), rfl⟩, by rw [ra.length]; exact k.z s (.int _)⟩
  · injection h with h; subst h
    obtain ⟨_, a, vs, rfl, ha, ra⟩ := r1.lst_inv s
    exact ⟨vs.length, .inl ⟨vs, SqL.of ha, rfl⟩, by rw [ra.length]; exact k.z s (.int _)⟩
  · injection h with h; subst h
    obtain ⟨a, rfl, ha⟩ := r1.scr_inv
    exact ⟨_, .inl ⟨_, SqL.le ha s, rfl⟩, by rw [List.length_map]; exact k.z s (.int _)⟩
theorem hr_abs {G : GI} (s : Sb F H) (r1 : RB G F H x d1) (h : absD d1 = some d) (k : KR G F H d Q) : ∃ i, [x] = [.int i] ∧ Q (.int (if i < 0 then -i else i)) H := by
  cases d1 <;> first | (cases h; done) | skip
  injection h with h; subst h
  exact ⟨_, by rw [r1.int_inv], k.z s (.int _)⟩
theorem hr_int {G : GI} (s : Sb F H) (r1 : RB G F H x d1) (h : intD d1 = some d) (k : KR G F H d Q) : (∃ i, [x] = [V.int i] ∧ Q (.int i) H) ∨ ∃ k, [x] = [V.bl k] ∧ Q (.int (if k then 1 else 0)) H := by
  cases d1 <;> first | (cases h; done) | skip
  · injection h with h; subst h
    exact .inr ⟨_, by rw [r1.bl_inv], k.z s (.int _)⟩
  · injection h with h; subst h
    exact .inl ⟨_, by rw [r1.int_inv], k.z s (.int _)⟩
theorem hr_max2 {G : GI} (s : Sb F H) (r1 : RB G F H x d1) (r2 : RB G F H y d2) (h : max2D d1 d2 = some d) (k : KR G F H d Q) : ∃ i j, [x, y] = [V.int i, .int j] ∧ Q (.int (if j > i then j else i)) H := by
  cases d1 <;> first | (cases h; done) | skip
  cases d2 <;> first | (cases h; done) | skip
  injection h with h; subst h
  exact ⟨_, _, by rw [r1.int_inv, r2.int_inv], k.z s (.int _)⟩
theorem hr_min2 {G : GI} (s : Sb F H) (r1 : RB G F H x d1) (r2 : RB G F H y d2) (h : min2D d1 d2 = some d) (k : KR G F H d Q) : ∃ i j, [x, y] = [V.int i, .int j] ∧ Q (.int (if j < i then j else i)) H := by
  cases d1 <;> first | (cases h; done) | skip
  cases d2 <;> first | (cases h; done) | skip
  injection h with h; subst h
  exact ⟨_, _, by rw [r1.int_inv, r2.int_inv], k.z s (.int _)⟩
theorem hr_tuple {G : GI} (s : Sb F H) (r1 : RB G F H x d1) (h : tupleD d1 = some d) (k : KR G F H d Q) :
    ∃ p ys, [x] = [V.ref p] ∧ ((SqL G.K H p ys ∧ ∀ l, H l = none → Q (.ref l) (upd H l (.tup ys))) ∨ (SqT G.K H p ys ∧ Q (.ref p) H)) := by
  cases d1 <;> first | (cases h; done) | skip
  · injection h with h; subst h
    obtain ⟨a, vs, rfl, ha, ra⟩ := r1.tup_inv
    exact ⟨a, vs, rfl, .inr ⟨SqT.of (s _ _ ha), k.z s (.tup ha ra)⟩⟩
  · injection h with h; subst h
    obtain ⟨_, a, vs, rfl, ha, ra⟩ := r1.lst_inv s
    exact ⟨a, vs, rfl, .inl ⟨SqL.of ha, fun l hl => k.tup s ra hl⟩⟩
theorem ints_RO {G : GI} : ∀ ns : List Int, ROs G F H [] (ns.map V.int) (ns.map D.int)
  | [] => .nil
  | n :: ns => ROs.consZ (.int n) (ints_RO ns)
theorem hr_list {G : GI} (s : Sb F H) (r1 : RB G F H x d1) (h : listD d1 = some d) (k : KR G F H d Q) :
    ∃ p ys, [x] = [V.ref p] ∧ (SqL G.K H p ys ∨ SqT G.K H p ys) ∧ ∀ l, H l = none → Q (.ref l) (upd H l (.lst ys)) := by
  cases d1 <;> first | (cases h; done) | skip
  · injection h with h; subst h
    obtain ⟨a, vs, rfl, ha, ra⟩ := r1.tup_inv
    exact ⟨a, vs, rfl, .inr (SqT.of (s _ _ ha)), fun l hl => k.lst s ra hl⟩
  · injection h with h; subst h
    obtain ⟨_, a, vs, rfl, ha, ra⟩ := r1.lst_inv s
    exact ⟨a, vs, rfl, .inl (SqL.of ha), fun l hl => k.lst s ra hl⟩
  · injection h with h; subst h
    obtain ⟨a, rfl, ha⟩ := r1.scr_inv
    exact ⟨a, _, rfl, .inl (SqL.le ha s), fun l hl => k.lst s (ints_RO _) hl⟩
theorem hr_sum {G : GI} (s : Sb F H) (r1 : RB G F H x d1) (h : sumD d1 = some d) (k : KR G F H d Q) : rSum G.K [x] H Q := by
  cases d1 <;> first | (cases h; done) | skip
  rename_i o xs
  have h : ((intsD xs).map fun ns => D.int ns.sum) = some d := h
  cases q : intsD xs with
  | none => rw [q] at h; cases h
  | some ns =>
    rw [q] at h
    injection h with h; subst h
    obtain ⟨_, a, vs, rfl, ha, ra⟩ := r1.lst_inv s
    rw [ints_rep ra q] at ha
    exact ⟨a, ns, rfl, SqL.of ha, k.z s (.int _)⟩
theorem maxL_ok : ∀ ns : List Int, 0 < ns.length → maxL ns ∈ ns ∧ ∀ y, y ∈ ns → y ≤ maxL ns
  | [], h => nomatch h
  | [a], _ => ⟨by simp [maxL], fun y hy => by simp at hy; subst hy; exact Int.le_refl _⟩
  | a :: b :: r, _ => by
    obtain ⟨h1, h2⟩ := maxL_ok (b :: r) (by simp)
    unfold maxL
    split
    · rename_i hl
      refine ⟨List.mem_cons_self .., fun y hy => ?_⟩
      rcases List.mem_cons.mp hy with e | hy
      · omega
      · have := h2 y hy; omega
    · refine ⟨List.mem_cons_of_mem _ h1, fun y hy => ?_⟩
      rcases List.mem_cons.mp hy with e | hy
      · omega
      · exact h2 y hy
theorem minL_ok : ∀ ns : List Int, 0 < ns.length → minL ns ∈ ns ∧ ∀ y, y ∈ ns → minL ns ≤ y
  | [], h => nomatch h
  | [a], _ => ⟨by simp [minL], fun y hy => by simp at hy; subst hy; exact Int.le_refl _⟩
  | a :: b :: r, _ => by
    obtain ⟨h1, h2⟩ := minL_ok (b :: r) (by simp)
    unfold minL
    split
    · rename_i hl
      refine ⟨List.mem_cons_self .., fun y hy => ?_⟩
      rcases List.mem_cons.mp hy with e | hy
      · omega
      · have := h2 y hy; omega
    · refine ⟨List.mem_cons_of_mem _ h1, fun y hy => ?_⟩
      rcases List.mem_cons.mp hy with e | hy
      · omega
      · exact h2 y hy
theorem hr_max1 {G : GI} (s : Sb F H) (r1 : RB G F H x d1) (h : max1D d1 = some d) (k : KR G F H d Q) : rMax G.K [x] H Q := by
  cases d1 <;> first | (cases h; done) | skip
  rename_i o xs
  have h : ((intsD xs).bind fun ns => if 0 < ns.length then some (D.int (maxL ns)) else none) = some d := h
  cases q : intsD xs with
  | none => rw [q] at h; cases h
  | some ns =>
    rw [q] at h
    have h : (if 0 < ns.length then some (D.int (maxL ns)) else none) = some d := h
    split at h
    · rename_i hl
      injection h with h; subst h
      obtain ⟨_, a, vs, rfl, ha, ra⟩ := r1.lst_inv s
      rw [ints_rep ra q] at ha
      refine ⟨a, ns, rfl, SqL.of ha, hl, fun m h1 h2 => ?_⟩
      obtain ⟨h3, h4⟩ := maxL_ok ns hl
      rw [show m = maxL ns from Int.le_antisymm (h4 m h1) (h2 _ h3)]
      exact k.z s (.int _)
    · cases h
theorem hr_min1 {G : GI} (s : Sb F H) (r1 : RB G F H x d1) (h : min1D d1 = some d) (k : KR G F H d Q) : rMin G.K [x] H Q := by
  cases d1 <;> first | (cases h; done) | skip
  rename_i o xs
  have h : ((intsD xs).bind fun ns => if 0 < ns.length then some (D.int (minL ns)) else none) = some d := h
  cases q : intsD xs with
  | none => rw [q] at h; cases h
  | some ns =>
    rw [q] at h
    have h : (if 0 < ns.length then some (D.int (minL ns)) else none) = some d := h
    split at h
    · rename_i hl
      injection h with h; subst h
      obtain ⟨_, a, vs, rfl, ha, ra⟩ := r1.lst_inv s
      rw [ints_rep ra q] at ha
      refine ⟨a, ns, rfl, SqL.of ha, hl, fun m h1 h2 => ?_⟩
      obtain ⟨h3, h4⟩ := minL_ok ns hl
      rw [show m = minL ns from Int.le_antisymm (h2 _ h3) (h4 m h1)]
      exact k.z s (.int _)
    · cases h
theorem hr_all {G : GI} (s : Sb F H) (r1 : RB G F H x d1) (h : allD d1 = some d) (k : KR G F H d Q) : rAll G.K [x] H Q := by
  cases d1 <;> first | (cases h; done) | skip
  rename_i o xs
  have h : ((blsD xs).map fun ns => D.bl (ns.all id)) = some d := h
  cases q : blsD xs with
  | none => rw [q] at h; cases h
  | some ns =>
    rw [q] at h
    injection h with h; subst h
    obtain ⟨_, a, vs, rfl, ha, ra⟩ := r1.lst_inv s
    rw [bls_rep ra q] at ha
    exact ⟨a, ns, rfl, SqL.of ha, k.z s (.bl _)⟩
theorem hr_any {G : GI} (s : Sb F H) (r1 : RB G F H x d1) (h : anyD d1 = some d) (k : KR G F H d Q) : rAny G.K [x] H Q := by
  cases d1 <;> first | (cases h; done) | skip
  rename_i o xs
  have h : ((blsD xs).map fun ns => D.bl (ns.any id)) = some d := h
  cases q : blsD xs with
  | none => rw [q] at h; cases h
  | some ns =>
    rw [q] at h
    injection h with h; subst h
    obtain ⟨_, a, vs, rfl, ha, ra⟩ := r1.lst_inv s
    rw [bls_rep ra q] at ha
    exact ⟨a, ns, rfl, SqL.of ha, k.z s (.bl _)⟩
def Ty.nm : Ty → String
  | .int => "int"
  | .bool => "bool"
  | .tuple => "tuple"
  | .list => "list"
  | .str => "str"
theorem kit_ty {K : PySem.W.Frag} (t : String) (T : Ty) : PySem.W.kitOne K (.type t) (.type T.nm) = PySem.W.kitOne [] (.type t) (.type T.nm) := rfl
theorem hr_isi {G : GI} {T : Ty} {b : Bool} (s : Sb F H) (r1 : RB G F H x d1) (h : isiD T d1 = some b) (q : Q (.bl b) H) : rIsi G.K [x, .ty T.nm] H Q := by
  refine ⟨x, .ty T.nm, ?_⟩
  cases d1 with
  | non => exact ⟨.type "NoneType", .type T.nm, b, rfl, .ty _, .base (by rw [r1.non_inv]; exact .non), by rw [kit_ty]; cases T <;> (injection h with h; subst h; decide +kernel), q⟩
  | bl c => exact ⟨.type "bool", .type T.nm, b, rfl, .ty _, .base (by rw [r1.bl_inv]; exact .bl _), by rw [kit_ty]; cases T <;> (injection h with h; subst h; decide +kernel), q⟩
  | int c => exact ⟨.type "int", .type T.nm, b, rfl, .ty _, .base (by rw [r1.int_inv]; exact .int _), by rw [kit_ty]; cases T <;> (injection h with h; subst h; decide +kernel), q⟩
  | str c => exact ⟨.type "str", .type T.nm, b, rfl, .ty _, .base (by rw [r1.str_inv]; exact .str _), by rw [kit_ty]; cases T <;> (injection h with h; subst h; decide +kernel), q⟩
  | tup xs =>
    obtain ⟨a, vs, rfl, ha, _⟩ := r1.tup_inv
    exact ⟨.type "tuple", .type T.nm, b, rfl, .ty _, .base (.tup (s _ _ ha)), by rw [kit_ty]; cases T <;> (injection h with h; subst h; decide +kernel), q⟩
  | lst o xs =>
    obtain ⟨_, a, vs, rfl, ha, _⟩ := r1.lst_inv s
    exact ⟨.type "list", .type T.nm, b, rfl, .ty _, .base (.lst ha), by rw [kit_ty]; cases T <;> (injection h with h; subst h; decide +kernel), q⟩
  | _ => cases T <;> cases h
theorem isE {α β : Type} : ∀ {xs : List α} {ys : List β}, xs.length = ys.length → (!ys.isEmpty) = !xs.isEmpty
  | [], [], _ => rfl
  | [], _ :: _, h => nomatch h
  | _ :: _, [], h => nomatch h
  | _ :: _, _ :: _, _ => rfl
theorem hr_tru {G : GI} {b : Bool} (s : Sb F H) (r1 : RB G F H x d1) (h : truD d1 = some b) : TruV G.K x H b := by
  cases d1 <;> first | (cases h; done) | skip
  · injection h with h; subst h; rw [r1.non_inv]; rfl
  · injection h with h; subst h; rw [r1.bl_inv]; rfl
  · injection h with h; subst h; rw [r1.int_inv]; rfl
  · injection h with h; subst h
    obtain ⟨a, vs, rfl, ha, ra⟩ := r1.tup_inv
    exact .inr (.inl ⟨vs, SqT.of (s _ _ ha), isE ra.length⟩)
  · injection h with h; subst h
    obtain ⟨_, a, vs, rfl, ha, ra⟩ := r1.lst_inv s
    exact .inl ⟨vs, SqL.of ha, isE ra.length⟩
end
end EV

/-! EvF: expressions of the text have plain readings. -/
namespace EV
open PySem PySem.Spec PyProof.Rows L2

/-- what is known of where one stands -/
structure Cn (X : Cx) (N : List Str) (sc : Scope) (fr : List Str) : Prop where
  hN : X.N = N
  nd : N.Nodup
  hsc : X.env.scope = sc
  calm : X.calm = true
  hu : X.A.units + 200 < cLine
  hfr : ∀ x, x ∈ fr → X.mg x = none
def visB (sc : Scope) (x : Str) : Bool := match sc.names.lookup x with
  | some .local => true
  | some .cell => true
  | some .free => true
  | _ => false
def glB (sc : Scope) (x : Str) : Bool := match sc.names.lookup x with
  | some .globalImplicit => true
  | _ => false
theorem visB_ok {sc : Scope} {x : Str} (h : visB sc x = true) : Vis sc x := by
  unfold visB at h
  split at h
  · rename_i q; exact .inl q
  · rename_i q; exact .inr (.inl q)
  · rename_i q; exact .inr (.inr q)
  · cases h
theorem glB_ok {sc : Scope} {x : Str} (h : glB sc x = true) : sc.names.lookup x = some .globalImplicit := by
  unfold glB at h
  split at h
  · rename_i q; exact q
  · cases h
/-- a local name at its slot -/
def varB (N : List Str) (sc : Scope) (i : Nat) (x : Str) : Bool := decide (N[i]? = some x) && (visB sc x && (!(x == ("__debug__" : Str)) && !(x == ("__classdict__" : Str))))
section
variable {X : Cx} {N : List Str} {sc : Scope} {fr : List Str} {g : GF} {W : WX} {a b c : Expr} {pos p2 p3 : Pos} {oa ob : Op} {ma mb : ME}
theorem Cn.hu1 (C : Cn X N sc fr) : X.A.units + 1 < cLine := by have := C.hu; omega
theorem Cn.hu0 (C : Cn X N sc fr) : X.A.units < cLine := by have := C.hu; omega
theorem Cn.hu64 (C : Cn X N sc fr) : X.A.units + 64 < cLine := by have := C.hu; omega
theorem Cn.hu65 (C : Cn X N sc fr) : X.A.units + 65 < cLine := by have := C.hu; omega
theorem pv_ok (C : Cn X N sc fr) {i : Nat} {x : Str} (h : varB N sc i x = true) : PE X (.Name x pos) (tVar i) := by
  unfold varB at h
  rw [Bool.and_eq_true, Bool.and_eq_true, Bool.and_eq_true, decide_eq_true_eq] at h
  obtain ⟨h1, h2, h3, h4⟩ := h
  exact pe_var (by rw [C.hN]; exact h1) (by rw [C.hsc]; exact visB_ok h2) (by simpa using h3) (by simpa using h4)
theorem gl_ok (C : Cn X N sc fr) {x : Str} (h : glB sc x = true) : Gl X x := by
  show X.env.scope.names.lookup x = _
  rw [C.hsc]; exact glB_ok h
abbrev SOp (X : Cx) (g : GF) (W : WX) (e : Expr) (o : Op) : Prop := PE X e (RdO (gOf X g) W o)
theorem SOp.v (C : Cn X N sc fr) {i : Nat} {x : Str} (h : varB N sc i x = true) : SOp X g W (.Name x pos) (.v i) := pv_ok C h
theorem SOp.e (h : SE X g W a ma) : SOp X g W a (.e ma) := h.z
/-! ### constants, names -/
def mC (d : D) : ME := fun e => .ok d e
theorem Tr.nil {F H F' H' : Hp} {O O' : Addr → Prop} (t : Tr F H O F' H' O') : Tr F H O F' H' (fun a => O' a ∨ a ∈ ([] : List Addr)) := t.drop fun _ z => z.elim id fun z => nomatch z
theorem RdE.const {G : GI} {W : WX} {d : D} {v : V} (r : ∀ F H, RO G F H [] v d) {σ : L2.St} {H : Hp} {Q : VK} (h : RdE G W (mC d) σ H Q) : Q v H := by
  obtain ⟨F, fp, e, s, h⟩ := h
  exact h v F H fp [] s (TO.z (r F H)) Tr.refl.nil
theorem se_int {i : Int} {j : Nat} : SE X g W (.Constant (.int i) j pos) (mC (.int i)) := PE.imp pe_int fun _ _ _ h => RdE.const (fun _ _ => .int i) h
theorem se_bl {i : Bool} {j : Nat} : SE X g W (.Constant (.bool i) j pos) (mC (.bl i)) := PE.imp pe_bl fun _ _ _ h => RdE.const (fun _ _ => .bl i) h
theorem se_non {j : Nat} : SE X g W (.Constant .none j pos) (mC .non) := PE.imp pe_non fun _ _ _ h => RdE.const (fun _ _ => .non) h
theorem se_str {i : Str} {j : Nat} : SE X g W (.Constant (.str i) j pos) (mC (.str i)) := PE.imp pe_str fun _ _ _ h => RdE.const (fun _ _ => .str i) h
/-- a name's value: shared from now on if it is not yet -/
def mV (i : Nat) : ME := fun e => match e[i]? with
  | some (some d) => if fz d = true then .ok d e else .ok (frz d) (e.set i (some (frz d)))
  | _ => .no
/-- a name's value handed on: the name is forgotten -/
def mMv (i : Nat) : ME := fun e => match e[i]? with
  | some (some d) => .ok d (e.set i none)
  | _ => .no
theorem se_v (C : Cn X N sc fr) {i : Nat} {x : Str} (h : varB N sc i x = true) : SE X g W (.Name x pos) (mV i) := PE.imp (pv_ok C h) fun σ H Q h => by
  obtain ⟨F, fp, e, s, h⟩ := RdE.iff.mp h
  unfold mV at h
  cases q : e[i]? with
  | none => rw [q] at h; exact h.elim
  | some o =>
    cases o with
    | none => rw [q] at h; exact h.elim
    | some d =>
      rw [q] at h
      obtain ⟨v, hv, r⟩ := s.rep i d q
      refine ⟨v, hv, ?_⟩
      simp only at h
      split at h
      · rename_i hf
        rw [r.nil_of_fz hf] at r
        exact h v F H fp [] s (TO.z r) Tr.refl.nil
      · have s2 := s.shareAt q
        exact h v _ H _ [] s2 (TO.z (r.frz (addF_le (s.sep i)) fun a z o => addF_at a z o)) (Tr.shareAt (s.sep i)).nil
theorem se_mv (C : Cn X N sc fr) {i : Nat} {x : Str} (h : varB N sc i x = true) : SE X g W (.Name x pos) (mMv i) := PE.imp (pv_ok C h) fun σ H Q h => by
  obtain ⟨F, fp, e, s, h⟩ := RdE.iff.mp h
  unfold mMv at h
  cases q : e[i]? with
  | none => rw [q] at h; exact h.elim
  | some o =>
    cases o with
    | none => rw [q] at h; exact h.elim
    | some d =>
      rw [q] at h
      obtain ⟨v, hv, t⟩ := s.take q
      exact ⟨v, hv, h v F H _ _ s.forget t (Tr.refl.drop own_take)⟩
/-! ### operators -/
theorem se_add (ha : SOp X g W a oa) (hb : SOp X g W b ob) : SE X g W (.BinOp a .Add b pos) (mOp2 addD oa ob) := PE.imp (pe_op (op_add.or (op_cat.or op_catA)) ha hb) fun _ _ _ h => rd_op2 (fun _ _ _ _ _ _ _ _ s r1 r2 h k => hr_add s r1 r2 h k) h
theorem se_sub (ha : SOp X g W a oa) (hb : SOp X g W b ob) : SE X g W (.BinOp a .Sub b pos) (mOp2 subD oa ob) := PE.imp (pe_op op_sub ha hb) fun _ _ _ h => rd_op2 (fun _ _ _ _ _ _ _ _ s r1 r2 h k => hr_sub s r1 r2 h k) h
theorem se_mul (ha : SOp X g W a oa) (hb : SOp X g W b ob) : SE X g W (.BinOp a .Mult b pos) (mOp2 mulD oa ob) := PE.imp (pe_op (op_mul.or (op_mulW.or op_rep)) ha hb) fun _ _ _ h => rd_op2 (fun _ _ _ _ _ _ _ _ s r1 r2 h k => hr_mul s r1 r2 h k) h
theorem se_fdiv (ha : SOp X g W a oa) (hb : SOp X g W b ob) : SE X g W (.BinOp a .FloorDiv b pos) (mOp2 fdivD oa ob) := PE.imp (pe_op op_fdivA ha hb) fun _ _ _ h => rd_op2 (fun _ _ _ _ _ _ _ _ s r1 r2 h k => hr_fdiv s r1 r2 h k) h
theorem se_mod (ha : SOp X g W a oa) (hb : SOp X g W b ob) : SE X g W (.BinOp a .Mod b pos) (mOp2 modD oa ob) := PE.imp (pe_op op_modN ha hb) fun _ _ _ h => rd_op2 (fun _ _ _ _ _ _ _ _ s r1 r2 h k => hr_mod s r1 r2 h k) h
theorem se_pow (ha : SOp X g W a oa) (hb : SOp X g W b ob) : SE X g W (.BinOp a .Pow b pos) (mOp2 powD oa ob) := PE.imp (pe_op op_pow ha hb) fun _ _ _ h => rd_op2 (fun _ _ _ _ _ _ _ _ s r1 r2 h k => hr_pow s r1 r2 h k) h
theorem se_neg (ha : SOp X g W a oa) : SE X g W (.UnaryOp .USub a pos) (mOp1 negD oa) := PE.imp (pe_un un_neg ha) fun _ _ _ h => rd_op1 (r := fun x H Q => rU (fun i => .int (-i)) x H Q) (fun _ _ _ _ _ _ s r1 h k => hr_neg s r1 h k) h
theorem se_lt (ha : SOp X g W a oa) (hb : SOp X g W b ob) : SE X g W (.Compare a [.Lt] [b] pos) (mOp2 (cmpD fun i j => decide (i < j)) oa ob) := PE.imp (pe_cmpR op_lt ha hb (nomark _)) fun _ _ _ h => rd_op2 (fun _ _ _ _ _ _ _ _ s r1 r2 h k => hr_cmp s r1 r2 h k) h
theorem se_le (ha : SOp X g W a oa) (hb : SOp X g W b ob) : SE X g W (.Compare a [.LtE] [b] pos) (mOp2 (cmpD fun i j => decide (i ≤ j)) oa ob) := PE.imp (pe_cmpR op_le ha hb (nomark _)) fun _ _ _ h => rd_op2 (fun _ _ _ _ _ _ _ _ s r1 r2 h k => hr_cmp s r1 r2 h k) h
theorem se_gt (ha : SOp X g W a oa) (hb : SOp X g W b ob) : SE X g W (.Compare a [.Gt] [b] pos) (mOp2 (cmpD fun i j => decide (j < i)) oa ob) := PE.imp (pe_cmpR op_gt ha hb (nomark _)) fun _ _ _ h => rd_op2 (fun _ _ _ _ _ _ _ _ s r1 r2 h k => hr_cmp s r1 r2 h k) h
theorem se_ge (ha : SOp X g W a oa) (hb : SOp X g W b ob) : SE X g W (.Compare a [.GtE] [b] pos) (mOp2 (cmpD fun i j => decide (j ≤ i)) oa ob) := PE.imp (pe_cmpR op_ge ha hb (nomark _)) fun _ _ _ h => rd_op2 (fun _ _ _ _ _ _ _ _ s r1 r2 h k => hr_cmp s r1 r2 h k) h
theorem se_eq (C : Cn X N sc fr) (ha : SOp X g W a oa) (hb : SOp X g W b ob) : SE X g W (.Compare a [.Eq] [b] pos) (mOp2 eqD oa ob) := PE.imp (pe_cmpR (op_eqD C.hu64) ha hb (nomark _)) fun _ _ _ h => rd_op2 (fun _ _ _ _ _ _ _ _ s r1 r2 h k => hr_eq s r1 r2 h k) h
theorem se_ne (C : Cn X N sc fr) (ha : SOp X g W a oa) (hb : SOp X g W b ob) : SE X g W (.Compare a [.NotEq] [b] pos) (mOp2 neD oa ob) := PE.imp (pe_cmpR (op_neD C.hu64) ha hb (nomark _)) fun _ _ _ h => rd_op2 (fun _ _ _ _ _ _ _ _ s r1 r2 h k => hr_ne s r1 r2 h k) h
theorem se_isN (ha : SOp X g W a oa) {j : Nat} : SE X g W (.Compare a [.Is] [.Constant .none j p2] pos) (mOp1 (fun d => some (.bl (isN d))) oa) := PE.imp (pe_cmp (pc_isN ha) rfl) fun _ _ _ h => rd_op1 (r := fun x H Q => Q (.bl (decide (x = .non))) H) (fun _ _ _ _ _ _ s r1 h k => hr_isN s r1 h k) h
theorem se_notN (ha : SOp X g W a oa) {j : Nat} : SE X g W (.Compare a [.IsNot] [.Constant .none j p2] pos) (mOp1 (fun d => some (.bl (!isN d))) oa) := PE.imp (pe_cmp (pc_notN ha) rfl) fun _ _ _ h => rd_op1 (r := fun x H Q => Q (.bl (!decide (x = .non))) H) (fun _ _ _ _ _ _ s r1 h k => hr_notN s r1 h k) h
theorem se_isB {k : Bool} (ha : SOp X g W a oa) {j : Nat} : SE X g W (.Compare a [.Is] [.Constant (.bool k) j p2] pos) (mOp1 (fun d => some (.bl (isB k d))) oa) := PE.imp (pe_cmpR (op_isC (b := k)) ha pe_bl (nomark _)) fun _ _ _ h =>
  rd_op1 (r := fun x H Q => V.bl k = V.bl k ∧ Q (.bl (decide (x = .bl k))) H) (fun _ _ _ _ _ _ s r1 h kk => ⟨rfl, by injection h with h; subst h; rw [isB_rep r1]; exact kk.z s (.bl _)⟩) h
theorem se_notB {k : Bool} (ha : SOp X g W a oa) {j : Nat} : SE X g W (.Compare a [.IsNot] [.Constant (.bool k) j p2] pos) (mOp1 (fun d => some (.bl (!isB k d))) oa) := PE.imp (pe_cmpR (op_isnotC (b := k)) ha pe_bl (nomark _)) fun _ _ _ h =>
  rd_op1 (r := fun x H Q => V.bl k = V.bl k ∧ Q (.bl (!decide (x = .bl k))) H) (fun _ _ _ _ _ _ s r1 h kk => ⟨rfl, by injection h with h; subst h; rw [isB_rep r1]; exact kk.z s (.bl _)⟩) h
def inB : D → D → Option D := fun a b => match inD a b with
  | some (.bl n) => some (.bl n)
  | _ => none
def notinB : D → D → Option D := fun a b => match inD a b with
  | some (.bl n) => some (.bl (!n))
  | _ => none
theorem inB_some {d1 d2 d : D} (h : inB d1 d2 = some d) : ∃ n, inD d1 d2 = some (.bl n) ∧ d = .bl n := by
  unfold inB at h
  split at h
  · rename_i n q; injection h with h; exact ⟨n, q, h.symm⟩
  · cases h
theorem notinB_some {d1 d2 d : D} (h : notinB d1 d2 = some d) : ∃ n, inD d1 d2 = some (.bl n) ∧ d = .bl (!n) := by
  unfold notinB at h
  split at h
  · rename_i n q; injection h with h; exact ⟨n, q, h.symm⟩
  · cases h
theorem se_in (C : Cn X N sc fr) (ha : SOp X g W a oa) (hb : SOp X g W b ob) (hm : behindInMarks .In b = false) : SE X g W (.Compare a [.In] [b] pos) (mOp2 inB oa ob) :=
  PE.imp (pe_cmpR ((op_inD C.hu65).or (op_in_seq.or (op_inDk C.hu1))) ha hb hm) fun _ _ _ h => rd_op2 (r := fun x y H Q => rInD X.K x y H Q ∨ rIn X.K false x y H Q ∨ ∃ a o, y = V.ref a ∧ DGet H a x o ∧ Q (V.bl o.isSome) H) (fun _ _ _ _ _ _ _ _ s r1 r2 h k => by
    obtain ⟨n, q, rfl⟩ := inB_some h
    have z := k.z s (.bl n)
    rcases hr_in s r1 r2 q with ⟨d, ds, h1, h2, h3, h4, h5⟩ | ⟨p, xs, h1, h2, h3, h4, h5⟩ | ⟨a, o, h1, h2, h3⟩
    · exact .inl ⟨d, ds, h1, h2, h3, h4, by rw [h5]; exact z⟩
    · exact .inr (.inl ⟨p, xs, h1, h2, h3, h4, by first | (rw [if_neg Bool.false_ne_true, h5]; exact z) | (rw [if_pos rfl, h5]; exact z)⟩)
    · exact .inr (.inr ⟨a, o, h1, h2, by rw [h3]; exact z⟩)) h
theorem se_notin (C : Cn X N sc fr) (ha : SOp X g W a oa) (hb : SOp X g W b ob) (hm : behindInMarks .NotIn b = false) : SE X g W (.Compare a [.NotIn] [b] pos) (mOp2 notinB oa ob) :=
  PE.imp (pe_cmpR ((op_notInD C.hu65).or (op_notIn_seq.or (op_notinDk C.hu1))) ha hb hm) fun _ _ _ h => rd_op2 (r := fun x y H Q => rNotInD X.K x y H Q ∨ rIn X.K true x y H Q ∨ ∃ a o, y = V.ref a ∧ DGet H a x o ∧ Q (V.bl !o.isSome) H) (fun _ _ _ _ _ _ _ _ s r1 r2 h k => by
    obtain ⟨n, q, rfl⟩ := notinB_some h
    have z := k.z s (.bl !n)
    rcases hr_in s r1 r2 q with ⟨d, ds, h1, h2, h3, h4, h5⟩ | ⟨p, xs, h1, h2, h3, h4, h5⟩ | ⟨a, o, h1, h2, h3⟩
    · exact .inl ⟨d, ds, h1, h2, h3, h4, by rw [h5]; exact z⟩
    · exact .inr (.inl ⟨p, xs, h1, h2, h3, h4, by first | (rw [if_neg Bool.false_ne_true, h5]; exact z) | (rw [if_pos rfl, h5]; exact z)⟩)
    · exact .inr (.inr ⟨a, o, h1, h2, by rw [h3]; exact z⟩)) h
theorem se_ix (C : Cn X N sc fr) (ha : SOp X g W a oa) (hb : SOp X g W b ob) (hs : PlainIx b) : SE X g W (.Subscript a b pos) (mOp2 ixD oa ob) :=
  PE.imp (pe_ix (ix_list.or (ix_tup.or (ix_dict C.hu1))) ha hb hs) fun _ _ _ h => rd_op2 (fun _ _ _ _ _ _ _ _ s r1 r2 h k => hr_ix s r1 r2 h k) h
/-! ### built-ins of one argument, of two -/
theorem se_b1 {id : String} {nm : Str} {r : List V → Hp → VK → Prop} {f : D → Option D} (C : Cn X N sc fr) (hc : CallR X (.builtin id) r) (hv : bootBuiltins nm = some (.builtin id)) (hn : nm ≠ "__name__") (hdb : (nm == ("__debug__" : Str)) = false)
    (hr : ∀ F H x d1 d Q, Sb F H → RB (gOf X g) F H x d1 → f d1 = some d → KR (gOf X g) F H d Q → r [x] H Q)
    (h1 : nm ∈ fr) (h2 : glB sc nm = true) (ha : SOp X g W a oa) (hs : starEach [a] X.env = (false, eval a X.env) :: starEach [] X.env) : SE X g W (.Call (.Name nm p2) [a] [] pos) (mOp1 f oa) :=
  PE.imp (pe_callB hc (gl_ok C h2) (C.hfr _ h1) hv (pa_cons ha pa_nil hs) hn hdb hs) fun _ _ _ h => rd_op1 (r := fun x H Q => r [x] H Q) (fun F H x d1 d Q s r1 h k => hr F H x d1 d Q s r1 h k) h
theorem se_t1 {id : String} {nm : Str} {r : List V → Hp → VK → Prop} {f : D → Option D} (C : Cn X N sc fr) (hc : CallR X (.type id) r) (hv : bootBuiltins nm = some (.type id)) (hn : nm ≠ "__name__") (hdb : (nm == ("__debug__" : Str)) = false)
    (hr : ∀ F H x d1 d Q, Sb F H → RB (gOf X g) F H x d1 → f d1 = some d → KR (gOf X g) F H d Q → r [x] H Q)
    (h1 : nm ∈ fr) (h2 : glB sc nm = true) (ha : SOp X g W a oa) (hs : starEach [a] X.env = (false, eval a X.env) :: starEach [] X.env) : SE X g W (.Call (.Name nm p2) [a] [] pos) (mOp1 f oa) :=
  PE.imp (pe_callTy hc (gl_ok C h2) (C.hfr _ h1) hv (pa_cons ha pa_nil hs) hn hdb hs) fun _ _ _ h => rd_op1 (r := fun x H Q => r [x] H Q) (fun F H x d1 d Q s r1 h k => hr F H x d1 d Q s r1 h k) h
theorem se_b2 {id : String} {nm : Str} {r : List V → Hp → VK → Prop} {f : D → D → Option D} (C : Cn X N sc fr) (hc : CallR X (.builtin id) r) (hv : bootBuiltins nm = some (.builtin id)) (hn : nm ≠ "__name__") (hdb : (nm == ("__debug__" : Str)) = false)
    (hr : ∀ F H x y d1 d2 d Q, Sb F H → RB (gOf X g) F H x d1 → RB (gOf X g) F H y d2 → f d1 d2 = some d → KR (gOf X g) F H d Q → r [x, y] H Q)
    (h1 : nm ∈ fr) (h2 : glB sc nm = true) (ha : SOp X g W a oa) (hb : SOp X g W b ob) (hs : starEach [a, b] X.env = (false, eval a X.env) :: starEach [b] X.env) (hs2 : starEach [b] X.env = (false, eval b X.env) :: starEach [] X.env) (hpl : (backTo pos (starEach [b] X.env)).any (·.1) = false) :
    SE X g W (.Call (.Name nm p2) [a, b] [] pos) (mOp2 f oa ob) :=
  PE.imp (pe_callB hc (gl_ok C h2) (C.hfr _ h1) hv (pa_cons ha (pa_cons hb pa_nil hs2) hs) hn hdb hs hpl) fun _ _ _ h => rd_op2 (r := fun x y H Q => r [x, y] H Q) (fun F H x y d1 d2 d Q s r1 r2 h k => hr F H x y d1 d2 d Q s r1 r2 h k) h
/-- isinstance(x, T) -/
theorem se_isi {T : Ty} (C : Cn X N sc fr) (h1 : ("isinstance" : Str) ∈ fr) (h2 : glB sc "isinstance" = true) (hT : ((Str.ofString T.nm) : Str) ∈ fr) (hT2 : glB sc (Str.ofString T.nm) = true) (ha : SOp X g W a oa)
    (hs : starEach [a, .Name (Str.ofString T.nm) p3] X.env = (false, eval a X.env) :: starEach [.Name (Str.ofString T.nm) p3] X.env) :
    SE X g W (.Call (.Name "isinstance" p2) [a, .Name (Str.ofString T.nm) p3] [] pos) (mOp1 (fun d => (isiD T d).map .bl) oa) := by
  have ht : PE X (.Name (Str.ofString T.nm) p3) (tC (.ty T.nm)) := by
    cases T
    · exact pe_bltn (gl_ok C hT2) (C.hfr _ hT) (u := .type "int") (by decide +kernel) rfl (by decide) (by decide)
    · exact pe_bltn (gl_ok C hT2) (C.hfr _ hT) (u := .type "bool") (by decide +kernel) rfl (by decide) (by decide)
    · exact pe_bltn (gl_ok C hT2) (C.hfr _ hT) (u := .type "tuple") (by decide +kernel) rfl (by decide) (by decide)
    · exact pe_bltn (gl_ok C hT2) (C.hfr _ hT) (u := .type "list") (by decide +kernel) rfl (by decide) (by decide)
    · exact pe_bltn (gl_ok C hT2) (C.hfr _ hT) (u := .type "str") (by decide +kernel) rfl (by decide) (by decide)
  refine PE.imp (pe_callB call_isi (gl_ok C h2) (C.hfr _ h1) (by decide +kernel) (pa_cons ha (pa_cons ht pa_nil rfl) hs) (by decide) (by decide) hs rfl) fun _ _ _ h => rd_op1 (r := fun x H Q => rIsi X.K [x, .ty T.nm] H Q) (fun F H x d1 d Q s r1 h k => ?_) h
  cases q : isiD T d1 with
  | none => rw [q] at h; cases h
  | some b =>
    rw [q] at h
    injection h with h; subst h
    exact hr_isi s r1 q (k.z s (.bl _))
end
end EV

/-! EvG: argument lists, displays, tests, choices. -/
namespace EV
open PySem PySem.Spec PyProof.Rows L2

/-! ### argument lists: values, and names that are lent -/
inductive PA1 where
  | t (d : D) | l (j : Nat)
inductive RA where
  | ok (as : List PA1) (e : DEnv) | ex (c : Nat) (d : D) (e : DEnv) | no
inductive Ar where
  | t (m : ME) | l (j : Nat)
def RA.cons (a : PA1) : RA → RA
  | .ok as e => .ok (a :: as) e
  | .ex c d e => .ex c d e
  | .no => .no
def mA : List Ar → DEnv → RA
  | [], e => .ok [] e
  | .t m :: r, e => match m e with
    | .ok d e1 => (mA r e1).cons (.t d)
    | .ex c d e1 => .ex c d e1
    | .no => .no
  | .l j :: r, e => match e[j]? with
    | some (some _) => (mA r e).cons (.l j)
    | _ => .no
inductive AR (G : GI) (F H : Hp) (σ : L2.St) : List Addr → List V → List PA1 → Prop
  | nil : AR G F H σ [] [] []
  | t {p q : List Addr} {v : V} {vs : List V} {d : D} {as : List PA1} : RO G F H p v d → AR G F H σ q vs as → AR G F H σ (p ++ q) (v :: vs) (.t d :: as)
  | l {q : List Addr} {v : V} {vs : List V} {j : Nat} {as : List PA1} : σ[j]? = some (some v) → AR G F H σ q vs as → AR G F H σ q (v :: vs) (.l j :: as)
theorem AR.mono {G : GI} {F H F' H' : Hp} {σ : L2.St} (hF : ∀ a o, F a = some o → F' a = some o) : ∀ {p : List Addr} {vs : List V} {as : List PA1}, AR G F H σ p vs as → (∀ a, a ∈ p → ∀ o, H a = some o → H' a = some o) → AR G F' H' σ p vs as
  | _, _, _, .nil, _ => .nil
  | _, _, _, .t r rs, h => .t (r.mono hF fun a z => h a (List.mem_append_left _ z)) (AR.mono hF rs fun a z => h a (List.mem_append_right _ z))
  | _, _, _, .l e rs, h => .l e (AR.mono hF rs h)
theorem AR.there {G : GI} {F H : Hp} {σ : L2.St} : ∀ {p : List Addr} {vs : List V} {as : List PA1}, AR G F H σ p vs as → ∀ a, a ∈ p → ∃ o, H a = some o
  | _, _, _, .nil, _, z => nomatch z
  | _, _, _, .t r rs, a, z => (List.mem_append.mp z).elim (r.there a) (AR.there rs a)
  | _, _, _, .l e rs, a, z => AR.there rs a z
structure AO (G : GI) (F H : Hp) (σ : L2.St) (fp : Nat → List Addr) (p : List Addr) (vs : List V) (as : List PA1) : Prop where
  r : AR G F H σ p vs as
  nd : p.Nodup
  sep : ∀ a, a ∈ p → F a = none
  dj : ∀ a, a ∈ p → ¬ own fp a
def AOut (G : GI) (W : WX) (σ : L2.St) (F H : Hp) (fp : Nat → List Addr) (Q : List V → Hp → Prop) : RA → Prop
  | .ok as e' => ∀ vs F' H' fp' p, SO G F' H' fp' σ e' → AO G F' H' σ fp' p vs as → Tr F H (own fp) F' H' (fun a => own fp' a ∨ a ∈ p) → Q vs H'
  | .ex c d e' => XOut G W σ F H fp c d e'
  | .no => False
def RdA (G : GI) (W : WX) (m : List Ar) : TA := fun σ H Q => ∃ F fp e, SO G F H fp σ e ∧ AOut G W σ F H fp Q (mA m e)
def RdAr (G : GI) (W : WX) : Ar → TE
  | .t m => RdE G W m
  | .l j => tVar j
section
variable {X : Cx} {N : List Str} {sc : Scope} {fr : List Str} {g : GF} {G : GI} {W : WX} {a b c : Expr} {es : List Expr} {pos p2 p3 : Pos} {oa ob : Op} {ma mb : ME} {F H F1 H1 : Hp} {fp : Nat → List Addr} {σ : L2.St} {e e' : DEnv}
abbrev SA (X : Cx) (g : GF) (W : WX) (es : List Expr) (m : List Ar) : Prop := PA X es (RdA (gOf X g) W m)
abbrev SAr (X : Cx) (g : GF) (W : WX) (e : Expr) (m : Ar) : Prop := PE X e (RdAr (gOf X g) W m)
theorem sa_nil : SA X g W [] [] := PA.imp pa_nil fun σ H Q ⟨F, fp, e, s, h⟩ => h [] F H fp [] s ⟨.nil, List.nodup_nil, fun _ z => (nomatch z), fun _ z => (nomatch z)⟩ Tr.refl.nil
theorem XOut.weak (h : XOut G W σ F H fp c' d' e') {P : Addr → Prop} : XOut G W σ F H fp c' d' e' := h
theorem sa_cons {m : Ar} {ms : List Ar} (ha : SAr X g W a m) (hr : SA X g W es ms) (hs : starEach (a :: es) X.env = (false, eval a X.env) :: starEach es X.env) : SA X g W (a :: es) (m :: ms) := PA.imp (pa_cons ha hr hs) fun σ H Q ⟨F, fp, e, s, h⟩ => by
  cases m with
  | t m =>
    have h : AOut (gOf X g) W σ F H fp Q (match m e with
      | .ok d e1 => (mA ms e1).cons (.t d)
      | .ex c d e1 => .ex c d e1
      | .no => .no) := h
    refine RdE.iff.mpr ⟨F, fp, e, s, ?_⟩
    cases q : m e with
    | ok d e1 =>
      rw [q] at h
      intro v F1 H1 fp1 p1 s1 t1 tr1
      refine ⟨F1, fp1, e1, s1, ?_⟩
      simp only at h
      cases q2 : mA ms e1 with
      | ok as e2 =>
        rw [q2] at h
        have h : AOut (gOf X g) W σ F H fp Q (.ok (.t d :: as) e2) := h
        intro vs F2 H2 fp2 p2 s2 t2 tr2
        have k1 := t1.keep tr2 fun c z => Or.inl z
        refine h (v :: vs) F2 H2 fp2 (p1 ++ p2) s2 ⟨.t k1.r t2.r, ?_, ?_, ?_⟩ ((tr1.trans (tr2.weak (P := fun c => own fp1 c ∨ c ∈ p1) (P1 := fun c => (own fp2 c ∨ c ∈ p2) ∨ c ∈ p1) (fun _ z => .inl z) fun c z => z.imp id .inr)).drop fun c z => ?_)
        · exact List.nodup_append.mpr ⟨t1.nd, t2.nd, fun x hx y hy z => t1.apart tr2 (q := p2) (fun c z => Or.inr z) x hx (z ▸ hy)⟩
        · exact fun c z => (List.mem_append.mp z).elim (k1.sep c) (t2.sep c)
        · exact fun c z => (List.mem_append.mp z).elim (k1.dj c) (t2.dj c)
        · rcases z with z | z
          · exact .inl (.inl z)
          · exact (List.mem_append.mp z).elim .inr fun z => .inl (.inr z)
      | ex c d2 e2 =>
        rw [q2] at h
        have h : XOut (gOf X g) W σ F H fp c d2 e2 := h
        intro dx v2 F2 H2 fp2 p2 s2 t2 tr2 hx
        exact h dx v2 F2 H2 fp2 p2 s2 t2 ((tr1.trans (tr2.weak (P := fun c => own fp1 c ∨ c ∈ p1) (P1 := fun c => (own fp2 c ∨ c ∈ p2) ∨ c ∈ p1) (fun _ z => .inl z) fun c z => z.imp id .inr)).drop fun c z => .inl z) hx
      | no => rw [q2] at h; exact h.elim
    | ex c d e1 => rw [q] at h; exact h
    | no => rw [q] at h; exact h
  | l j =>
    have h : AOut (gOf X g) W σ F H fp Q (match e[j]? with
      | some (some _) => (mA ms e).cons (.l j)
      | _ => .no) := h
    cases q : e[j]? with
    | none => rw [q] at h; exact h.elim
    | some o =>
      cases o with
      | none => rw [q] at h; exact h.elim
      | some d =>
        rw [q] at h
        simp only at h
        obtain ⟨v, hv, _⟩ := s.rep j d q
        refine ⟨v, hv, F, fp, e, s, ?_⟩
        cases q2 : mA ms e with
        | ok as e2 =>
          rw [q2] at h
          have h : AOut (gOf X g) W σ F H fp Q (.ok (.l j :: as) e2) := h
          intro vs F2 H2 fp2 p2 s2 t2 tr2
          exact h (v :: vs) F2 H2 fp2 p2 s2 ⟨.l hv t2.r, t2.nd, t2.sep, t2.dj⟩ tr2
        | ex c d2 e2 => rw [q2] at h; exact h
        | no => rw [q2] at h; exact h
/-! ### displays -/
def allT : List PA1 → Option (List D)
  | [] => some []
  | .t d :: r => (allT r).map (d :: ·)
  | .l _ :: _ => none
theorem AR.all {p : List Addr} : ∀ {as : List PA1} {vs : List V} {ds : List D}, AR G F H σ p vs as → allT as = some ds → ROs G F H p vs ds := by
  intro as vs ds r
  induction r generalizing ds with
  | nil => intro h; injection h with h; subst h; exact .nil
  | @t p q v vs d as r rs ih =>
    intro h
    have h2 : (allT as).map (d :: ·) = some ds := h
    cases q2 : allT as with
    | none => rw [q2] at h2; cases h2
    | some es => rw [q2] at h2; injection h2 with h2; subst h2; exact .cons r (ih q2)
  | l e rs ih => intro h; cases h
def RA.fin (r : RA) (k : List D → DEnv → RE) : RE := match r with
  | .ok as e => match allT as with
    | some ds => if ds.length ≤ LIM then k ds e else .no
    | none => .no
  | .ex c d e => .ex c d e
  | .no => .no
def mTup (ms : List Ar) : ME := fun e => (mA ms e).fin fun ds e1 => .ok (.tup ds) e1
def mLst (ms : List Ar) : ME := fun e => (mA ms e).fin fun ds e1 => .ok (.lst true ds) e1
theorem SO.new {a : Addr} {o : HO} (s : SO G F H fp σ e) (h : H a = none) : SO G F (upd H a o) fp σ e := s.grow (fun _ _ z => z) (upd_le h) (fun b u z => upd_le h b u (s.sub b u z)) fun b u z => .inl z
theorem SO.newF {a : Addr} {o : HO} (s : SO G F H fp σ e) (h : H a = none) : SO G (upd F a o) (upd H a o) fp σ e := s.grow (upd_le (by
    cases q : F a with
    | none => rfl
    | some o => rw [s.sub a o q] at h; cases h)) (upd_le h) (fun b u z => by
    by_cases e : b = a
    · subst e; rw [upd_same] at z ⊢; exact z
    · rw [upd_ne e] at z ⊢; exact s.sub b u z) fun b u z => by
    by_cases e : b = a
    · subst e; exact .inr h
    · rw [upd_ne e] at z; exact .inl z
theorem SO.fnone {a : Addr} (s : SO G F H fp σ e) (h : H a = none) : F a = none := by
  cases q : F a with
  | none => rfl
  | some o => rw [s.sub a o q] at h; cases h
theorem SO.noown {a : Addr} (s : SO G F H fp σ e) (h : H a = none) : ¬ own fp a := fun ⟨i, z⟩ => by
  obtain ⟨o, q⟩ := s.th i a z
  rw [h] at q; cases q
theorem Tr.newF {a : Addr} {o : HO} {O : Addr → Prop} (s : ∀ a o, F a = some o → H a = some o) (h : H a = none) : Tr F H O (upd F a o) (upd H a o) O where
  ff := upd_le (by
    cases q : F a with
    | none => rfl
    | some o => rw [s a o q] at h; cases h)
  fr := fun b u _ z => upd_le h b u z
  ow := fun _ z => .inl z
  fz := fun b u z => by
    by_cases e : b = a
    · subst e; exact .inr (.inr h)
    · rw [upd_ne e] at z; exact .inl z
theorem Tr.new {a : Addr} {o : HO} {O : Addr → Prop} (h : H a = none) : Tr F H O F (upd H a o) (fun c => O c ∨ c = a) where
  ff := fun _ _ z => z
  fr := fun b u _ z => upd_le h b u z
  ow := fun b z => by
    rcases z with z | z
    · exact .inl z
    · exact .inr (by rw [z]; exact h)
  fz := fun b u z => .inl z
theorem se_tup {ms : List Ar} {k : Nat} (ha : SA X g W es ms) : SE X g W (.Tuple es k pos) (mTup ms) := PE.imp (pe_tup ha) fun σ H Q h => by
  obtain ⟨F, fp, e, s, h⟩ := RdE.iff.mp h
  refine ⟨F, fp, e, s, ?_⟩
  unfold mTup at h
  cases q : mA ms e with
  | ok as e1 =>
    rw [q] at h
    have h : EOut (gOf X g) W σ F H fp Q (match allT as with
      | some ds => if ds.length ≤ LIM then RE.ok (.tup ds) e1 else .no
      | none => .no) := h
    cases q2 : allT as with
    | none => rw [q2] at h; exact h.elim
    | some ds =>
      rw [q2] at h
      simp only at h
      split at h
      · rename_i hl
        intro vs F1 H1 fp1 p s1 t tr
        have r := t.r.all q2
        refine ⟨by rw [r.length]; exact LIM_line hl, fun b hb => ?_⟩
        have s2 := s1.newF (o := .tup vs) hb
        have nb : ∀ c, c ∈ p → c ≠ b := fun c z w => by
          obtain ⟨o, ho⟩ := t.r.there c z
          rw [w, hb] at ho; cases ho
        refine h (.ref b) _ _ fp1 p s2 ⟨.tup upd_same (r.mono (upd_le (s1.fnone hb)) fun c _ o z => upd_le hb c o z), t.nd, fun c z => ?_, t.dj⟩ ?_
        · rw [upd_ne (nb c z)]; exact t.sep c z
        · exact tr.trans (Tr.newF s1.sub hb)
      · exact h.elim
  | ex c d e1 => rw [q] at h; exact h
  | no => rw [q] at h; exact h
theorem se_lst {ms : List Ar} (ha : SA X g W es ms) : SE X g W (.List es pos) (mLst ms) := PE.imp (pe_lst ha) fun σ H Q h => by
  obtain ⟨F, fp, e, s, h⟩ := RdE.iff.mp h
  refine ⟨F, fp, e, s, ?_⟩
  unfold mLst at h
  cases q : mA ms e with
  | ok as e1 =>
    rw [q] at h
    have h : EOut (gOf X g) W σ F H fp Q (match allT as with
      | some ds => if ds.length ≤ LIM then RE.ok (.lst true ds) e1 else .no
      | none => .no) := h
    cases q2 : allT as with
    | none => rw [q2] at h; exact h.elim
    | some ds =>
      rw [q2] at h
      simp only at h
      split at h
      · rename_i hl
        intro vs F1 H1 fp1 p s1 t tr
        have r := t.r.all q2
        refine ⟨by rw [r.length]; exact LIM_line hl, fun b hb => ?_⟩
        have s2 := s1.new (o := .lst vs) hb
        have nb : ∀ c, c ∈ p → c ≠ b := fun c z w => by
          obtain ⟨o, ho⟩ := t.r.there c z
          rw [w, hb] at ho; cases ho
        refine h (.ref b) _ _ fp1 (b :: p) s2 ⟨.lo upd_same (r.mono (fun _ _ z => z) fun c _ o z => upd_le hb c o z), List.nodup_cons.mpr ⟨fun z => nb b z rfl, t.nd⟩, fun c z => ?_, fun c z => ?_⟩ ?_
        · rcases List.mem_cons.mp z with w | w
          · rw [w]; exact s1.fnone hb
          · exact t.sep c w
        · rcases List.mem_cons.mp z with w | w
          · rw [w]; exact s1.noown hb
          · exact t.dj c w
        · refine (tr.trans (Tr.new hb)).drop fun c z => ?_
          rcases z with z | z
          · exact .inl (.inl z)
          · exact (List.mem_cons.mp z).elim .inr fun z => .inl (.inr z)
      · exact h.elim
  | ex c d e1 => rw [q] at h; exact h
  | no => rw [q] at h; exact h
/-! ### tests -/
def TOut (G : GI) (W : WX) (σ : L2.St) (F H : Hp) (fp : Nat → List Addr) (Q : Bool → Hp → Prop) : RE → Prop
  | .ok (.bl b) e' => ∀ F' H' fp', SO G F' H' fp' σ e' → Tr F H (own fp) F' H' (own fp') → Q b H'
  | .ok _ _ => False
  | .ex c d e' => XOut G W σ F H fp c d e'
  | .no => False
def RdT (G : GI) (W : WX) (m : ME) : TT := fun σ H Q => ∃ F fp e, SO G F H fp σ e ∧ TOut G W σ F H fp Q (m e)
abbrev ST (X : Cx) (g : GF) (W : WX) (e : Expr) (m : ME) : Prop := PT X e (RdT (gOf X g) W m)
/-- a value, by its truth -/
def mTru (oa : Op) : ME := mOp1 (fun d => (truD d).map .bl) oa
theorem st_tru (h : SOp X g W a oa) (he : ∀ whole, isTrue a X.env whole = (do let v ← whole; standAt a.pos; holding [v] (truthy v))) : ST X g W a (mTru oa) := PT.imp (pt_truth h he) fun σ H Q h => by
  obtain ⟨F, fp, e, s, h⟩ := h
  refine RdO.step oa s ?_
  unfold mTru mOp1 at h
  cases q : oa.run e with
  | ok p e1 =>
    rw [q] at h
    intro x F1 H1 fp1 s1 tr1 v1
    have hne : (p.see e1 fun d e2 => RE.of ((truD d).map .bl) e2) ≠ .no := fun z => by
      rw [RP.bind_ok, z] at h; exact h
    obtain ⟨d1, e2, F2, fp2, s2, b2, tr2, k⟩ := PV.see_ok s1 v1 rfl hne
    rw [RP.bind_ok, ← k] at h
    cases q3 : truD d1 with
    | none => rw [q3] at h; exact h.elim
    | some b =>
      rw [q3] at h
      exact ⟨b, hr_tru s2.sub b2 q3, h F2 H1 fp2 s2 (tr1.trans tr2)⟩
  | ex c d e1 => rw [q] at h; exact h
  | no => rw [q] at h; exact h
def mTNot (m : ME) : ME := fun e => match m e with
  | .ok (.bl b) e1 => .ok (.bl (!b)) e1
  | .ok _ _ => .no
  | .ex c d e1 => .ex c d e1
  | .no => .no
def mTAnd (m n : ME) : ME := fun e => match m e with
  | .ok (.bl true) e1 => n e1
  | .ok (.bl false) e1 => .ok (.bl false) e1
  | .ok _ _ => .no
  | .ex c d e1 => .ex c d e1
  | .no => .no
def mTOr (m n : ME) : ME := fun e => match m e with
  | .ok (.bl true) e1 => .ok (.bl true) e1
  | .ok (.bl false) e1 => n e1
  | .ok _ _ => .no
  | .ex c d e1 => .ex c d e1
  | .no => .no
/-- a choice -/
def mIf (t m n : ME) : ME := fun e => match t e with
  | .ok (.bl true) e1 => m e1
  | .ok (.bl false) e1 => n e1
  | .ok _ _ => .no
  | .ex c d e1 => .ex c d e1
  | .no => .no
variable {m n t : ME}
theorem TOut.trans {F1 H1 : Hp} {fp1 : Nat → List Addr} {Q : Bool → Hp → Prop} {r : RE} (h : TOut G W σ F H fp Q r) (t : Tr F H (own fp) F1 H1 (own fp1)) : TOut G W σ F1 H1 fp1 Q r := by
  cases r with
  | ok d e =>
    cases d with
    | bl b => exact fun F' H' fp' s' tr => h F' H' fp' s' (t.trans tr)
    | _ => exact h.elim
  | ex c d e => exact XOut.trans h t
  | no => exact h
theorem st_not (h : ST X g W a m) : ST X g W (.UnaryOp .Not a pos) (mTNot m) := PT.imp (pt_not h) fun σ H Q h => by
  obtain ⟨F, fp, e, s, h⟩ := h
  refine ⟨F, fp, e, s, ?_⟩
  unfold mTNot at h
  cases q : m e with
  | ok d e1 =>
    rw [q] at h
    cases d with
    | bl b => exact fun F' H' fp' s' tr => h F' H' fp' s' tr
    | _ => exact h.elim
  | ex c d e1 => rw [q] at h; exact h
  | no => rw [q] at h; exact h
theorem RdT.and {σ : L2.St} {H : Hp} {Q : Bool → Hp → Prop} (h : RdT G W (mTAnd m n) σ H Q) : tAnd (RdT G W m) (RdT G W n) σ H Q := by
  obtain ⟨F, fp, e, s, h⟩ := h
  refine ⟨F, fp, e, s, ?_⟩
  unfold mTAnd at h
  cases q : m e with
  | ok d e1 =>
    rw [q] at h
    cases d with
    | bl b =>
      intro F1 H1 fp1 s1 tr1
      cases b with
      | true => rw [if_pos rfl]; exact ⟨F1, fp1, e1, s1, TOut.trans h tr1⟩
      | false => rw [if_neg Bool.false_ne_true]; exact h F1 H1 fp1 s1 tr1
    | _ => exact h.elim
  | ex c d e1 => rw [q] at h; exact h
  | no => rw [q] at h; exact h
theorem RdT.or {σ : L2.St} {H : Hp} {Q : Bool → Hp → Prop} (h : RdT G W (mTOr m n) σ H Q) : tOr (RdT G W m) (RdT G W n) σ H Q := by
  obtain ⟨F, fp, e, s, h⟩ := h
  refine ⟨F, fp, e, s, ?_⟩
  unfold mTOr at h
  cases q : m e with
  | ok d e1 =>
    rw [q] at h
    cases d with
    | bl b =>
      intro F1 H1 fp1 s1 tr1
      cases b with
      | true => rw [if_pos rfl]; exact h F1 H1 fp1 s1 tr1
      | false => rw [if_neg Bool.false_ne_true]; exact ⟨F1, fp1, e1, s1, TOut.trans h tr1⟩
    | _ => exact h.elim
  | ex c d e1 => rw [q] at h; exact h
  | no => rw [q] at h; exact h
abbrev SW (X : Cx) (g : GF) (W : WX) (e : Expr) (m : ME) : Prop := PW X e (RdT (gOf X g) W m)
theorem PW.imp {X : Cx} {e : Expr} {t u : TT} (h : PW X e t) (i : ∀ σ H Q, u σ H Q → t σ H Q) : PW X e u := ⟨fun whole pins s σ H Q I q => h.run whole pins s σ H Q I (i σ H Q q)⟩
theorem sw_and1 (h : ST X g W a m) : SW X g W (.BoolOp .And [a] pos) m := pw_and1 h
theorem sw_or1 (h : ST X g W a m) : SW X g W (.BoolOp .Or [a] pos) m := pw_or1 h
theorem sw_and (h : ST X g W a m) (hb : SW X g W (.BoolOp .And (b :: es) pos) n) : SW X g W (.BoolOp .And (a :: b :: es) pos) (mTAnd m n) := PW.imp (pw_and h hb) fun _ _ _ h => RdT.and h
theorem sw_or (h : ST X g W a m) (hb : SW X g W (.BoolOp .Or (b :: es) pos) n) : SW X g W (.BoolOp .Or (a :: b :: es) pos) (mTOr m n) := PW.imp (pw_or h hb) fun _ _ _ h => RdT.or h
theorem RdE.choose {σ : L2.St} {H : Hp} {Q : VK} (h : RdE G W (mIf t m n) σ H Q) : tIf (RdT G W t) (RdE G W m) (RdE G W n) σ H Q := by
  obtain ⟨F, fp, e, s, h⟩ := RdE.iff.mp h
  refine ⟨F, fp, e, s, ?_⟩
  unfold mIf at h
  cases q : t e with
  | ok d e1 =>
    rw [q] at h
    cases d with
    | bl b =>
      intro F1 H1 fp1 s1 tr1
      cases b with
      | true => rw [if_pos rfl]; exact RdE.iff.mpr ⟨F1, fp1, e1, s1, EOut.trans h tr1⟩
      | false => rw [if_neg Bool.false_ne_true]; exact RdE.iff.mpr ⟨F1, fp1, e1, s1, EOut.trans h tr1⟩
    | _ => exact h.elim
  | ex c d e1 => rw [q] at h; exact h
  | no => rw [q] at h; exact h
theorem se_if (hc : ST X g W c t) (ha : SE X g W a m) (hb : SE X g W b n) : SE X g W (.IfExp c a b pos) (mIf t m n) := PE.imp (pe_ifExp hc ha hb) fun _ _ _ h => RdE.choose h
/-! ### and, or, not as values -/
/-- x and y: the first if it is false (its value shared), else the second -/
def mAnd (oa : Op) (n : ME) : ME := fun e => match oa.run e with
  | .ok p e1 => p.see e1 fun d e2 => match truD d with
    | some true => n e2
    | some false => if isV d then .ok d e2 else .no
    | none => .no
  | .ex c d e1 => .ex c d e1
  | .no => .no
where isV : D → Bool
  | .bl _ => true
  | .non => true
  | .int _ => true
  | _ => false
def mOr (oa : Op) (n : ME) : ME := fun e => match oa.run e with
  | .ok p e1 => p.see e1 fun d e2 => match truD d with
    | some true => if mAnd.isV d then .ok d e2 else .no
    | some false => n e2
    | none => .no
  | .ex c d e1 => .ex c d e1
  | .no => .no
theorem RB.toZ {v : V} {d : D} (r : RB G F H v d) (h : mAnd.isV d = true) : RO G F H [] v d := by
  cases r with
  | z r => exact r
  | _ => cases h
theorem se_and1 {op : BoolOp} (h : SE X g W a m) : SE X g W (.BoolOp op [a] pos) m := pe_one h
theorem se_and (ha : SOp X g W a oa) (hb : SE X g W (.BoolOp .And (b :: es) pos) n) : SE X g W (.BoolOp .And (a :: b :: es) pos) (mAnd oa n) := PE.imp (pe_andT ha hb) fun σ H Q h => by
  obtain ⟨F, fp, e, s, h⟩ := RdE.iff.mp h
  refine RdO.step oa s ?_
  unfold mAnd at h
  cases q : oa.run e with
  | ok p e1 =>
    rw [q] at h
    intro x F1 H1 fp1 s1 tr1 v1
    simp only at h
    obtain ⟨d1, e2, F2, fp2, s2, b2, tr2, k⟩ := PV.see_ok s1 v1 rfl h.ne
    rw [← k] at h
    cases q3 : truD d1 with
    | none => rw [q3] at h; exact h.elim
    | some b =>
      rw [q3] at h
      refine ⟨b, hr_tru s2.sub b2 q3, ?_⟩
      cases b with
      | true => rw [if_pos rfl]; exact RdE.iff.mpr ⟨F2, fp2, e2, s2, EOut.trans h (tr1.trans tr2)⟩
      | false =>
        rw [if_neg Bool.false_ne_true]
        simp only at h
        split at h
        · rename_i hv
          exact h x F2 H1 fp2 [] s2 (TO.z (b2.toZ hv)) (tr1.trans tr2).nil
        · exact h.elim
  | ex c d e1 => rw [q] at h; exact h
  | no => rw [q] at h; exact h
theorem se_or (ha : SOp X g W a oa) (hb : SE X g W (.BoolOp .Or (b :: es) pos) n) : SE X g W (.BoolOp .Or (a :: b :: es) pos) (mOr oa n) := PE.imp (pe_orT ha hb) fun σ H Q h => by
  obtain ⟨F, fp, e, s, h⟩ := RdE.iff.mp h
  refine RdO.step oa s ?_
  unfold mOr at h
  cases q : oa.run e with
  | ok p e1 =>
    rw [q] at h
    intro x F1 H1 fp1 s1 tr1 v1
    simp only at h
    obtain ⟨d1, e2, F2, fp2, s2, b2, tr2, k⟩ := PV.see_ok s1 v1 rfl h.ne
    rw [← k] at h
    cases q3 : truD d1 with
    | none => rw [q3] at h; exact h.elim
    | some b =>
      rw [q3] at h
      refine ⟨b, hr_tru s2.sub b2 q3, ?_⟩
      cases b with
      | true =>
        rw [if_pos rfl]
        simp only at h
        split at h
        · rename_i hv
          exact h x F2 H1 fp2 [] s2 (TO.z (b2.toZ hv)) (tr1.trans tr2).nil
        · exact h.elim
      | false => rw [if_neg Bool.false_ne_true]; exact RdE.iff.mpr ⟨F2, fp2, e2, s2, EOut.trans h (tr1.trans tr2)⟩
  | ex c d e1 => rw [q] at h; exact h
  | no => rw [q] at h; exact h
def mNot (oa : Op) : ME := mOp1 (fun d => (truD d).map fun b => .bl (!b)) oa
theorem se_not (ha : SOp X g W a oa) : SE X g W (.UnaryOp .Not a pos) (mNot oa) := PE.imp (pe_notT ha) fun σ H Q h => rd_op1 (r := fun x H Q => ∃ k, TruV X.K x H k ∧ Q (.bl (!k)) H) (fun F H x d1 d Q s r1 h k => by
  cases q : truD d1 with
  | none => rw [q] at h; cases h
  | some b =>
    rw [q] at h
    injection h with h; subst h
    exact ⟨b, hr_tru s r1 q, k.z s (.bl _)⟩) h
end
end EV

/-! EvH: statements. -/
namespace EV
open PySem PySem.Spec PyProof.Rows L2

def SOut (G : GI) (W : WX) (L : List Nat) (D : Ends) (σ : L2.St) (F H : Hp) (fp : Nat → List Addr) : RS → Prop
  | .nx e' => ∀ σ' F' H' fp', SO G F' H' fp' σ' e' → (∀ i, i ∈ L → σ'[i]? = σ[i]?) → Tr F H (own fp) F' H' (own fp') → D.nx σ' H'
  | .bk e' => ∀ σ' F' H' fp', SO G F' H' fp' σ' e' → (∀ i, i ∈ L → σ'[i]? = σ[i]?) → Tr F H (own fp) F' H' (own fp') → D.bk σ' H'
  | .ct e' => ∀ σ' F' H' fp', SO G F' H' fp' σ' e' → (∀ i, i ∈ L → σ'[i]? = σ[i]?) → Tr F H (own fp) F' H' (own fp') → D.ct σ' H'
  | .rt d e' => ∀ v σ' F' H' fp' p, SO G F' H' fp' σ' e' → (∀ i, i ∈ L → σ'[i]? = σ[i]?) → TO G F' H' fp' p v d → Tr F H (own fp) F' H' (fun a => own fp' a ∨ a ∈ p) → D.rt v H'
  | .ex c d e' => ∀ dx v σ' F' H' fp' p, SO G F' H' fp' σ' e' → (∀ i, i ∈ L → σ'[i]? = σ[i]?) → TO G F' H' fp' p v d → Tr F H (own fp) F' H' (fun a => own fp' a ∨ a ∈ p) → H' dx = some (.xd [(G.xn c, v)]) → W (.ref (G.ca c)) (some dx) σ' H'
  | .no => False
def RdS (G : GI) (W : WX) (L : List Nat) (m : MS) : TS := fun D σ H => ∃ F fp e, SO G F H fp σ e ∧ SOut G W L D σ F H fp (m e)
section
variable {X : Cx} {N : List Str} {sc : Scope} {fr : List Str} {g : GF} {G : GI} {W : WX} {L : List Nat} {a b c : Expr} {es : List Expr} {st : Stmt} {sts : List Stmt} {pos p2 p3 : Pos} {oa ob : Op} {m n t : ME} {ms ns : MS} {F H F1 H1 F' H' : Hp} {fp fp1 fp' : Nat → List Addr} {σ σ1 : L2.St} {e e' : DEnv} {D : Ends}
abbrev SS (X : Cx) (g : GF) (W : WX) (L : List Nat) (s : Stmt) (m : MS) : Prop := PS X s (RdS (gOf X g) W L m)
abbrev SSs (X : Cx) (g : GF) (W : WX) (L : List Nat) (s : List Stmt) (m : MS) : Prop := PSs X s (RdS (gOf X g) W L m)
theorem SOut.trans {r : RS} (h : SOut G W L D σ F H fp r) (t : Tr F H (own fp) F1 H1 (own fp1)) (hL : ∀ i, i ∈ L → σ1[i]? = σ[i]?) : SOut G W L D σ1 F1 H1 fp1 r := by
  cases r with
  | nx e => exact fun σ' F' H' fp' s' l' tr => h σ' F' H' fp' s' (fun i z => (l' i z).trans (hL i z)) (t.trans tr)
  | bk e => exact fun σ' F' H' fp' s' l' tr => h σ' F' H' fp' s' (fun i z => (l' i z).trans (hL i z)) (t.trans tr)
  | ct e => exact fun σ' F' H' fp' s' l' tr => h σ' F' H' fp' s' (fun i z => (l' i z).trans (hL i z)) (t.trans tr)
  | rt d e => exact fun v σ' F' H' fp' p s' l' t' tr => h v σ' F' H' fp' p s' (fun i z => (l' i z).trans (hL i z)) t' (t.trans tr)
  | ex c d e => exact fun dx v σ' F' H' fp' p s' l' t' tr hx => h dx v σ' F' H' fp' p s' (fun i z => (l' i z).trans (hL i z)) t' (t.trans tr) hx
  | no => exact h
theorem SOut.x {c : Nat} {d : EV.D} (h : SOut G W L D σ F H fp (.ex c d e')) : XOut G W σ F H fp c d e' := fun dx v F' H' fp' p s' t' tr hx => h dx v σ F' H' fp' p s' (fun _ _ => rfl) t' tr hx
/-- behind a value -/
def RE.toS (r : RE) (k : EV.D → DEnv → RS) : RS := match r with
  | .ok d e => k d e
  | .ex c d e => .ex c d e
  | .no => .no
@[simp] theorem RE.toS_ok {d e k} : (RE.ok d e).toS k = k d e := rfl
@[simp] theorem RE.toS_ex {c d e k} : (RE.ex c d e).toS k = .ex c d e := rfl
@[simp] theorem RE.toS_no {k} : RE.no.toS k = .no := rfl
def RS.seq (r : RS) (k : DEnv → RS) : RS := match r with
  | .nx e => k e
  | .rt d e => .rt d e
  | .bk e => .bk e
  | .ct e => .ct e
  | .ex c d e => .ex c d e
  | .no => .no
@[simp] theorem RS.seq_nx {e k} : (RS.nx e).seq k = k e := rfl
@[simp] theorem RS.seq_rt {d e k} : (RS.rt d e).seq k = .rt d e := rfl
@[simp] theorem RS.seq_bk {e k} : (RS.bk e).seq k = .bk e := rfl
@[simp] theorem RS.seq_ct {e k} : (RS.ct e).seq k = .ct e := rfl
@[simp] theorem RS.seq_ex {c d e k} : (RS.ex c d e).seq k = .ex c d e := rfl
@[simp] theorem RS.seq_no {k} : RS.no.seq k = .no := rfl
def mSeq (m n : MS) : MS := fun e => (m e).seq n
theorem sss_nil : SSs X g W L [] RS.nx := PSs.imp pss_nil fun D σ H ⟨F, fp, e, s, h⟩ => h σ F H fp s (fun _ _ => rfl) Tr.refl
theorem sss_cons (h1 : SS X g W L st ms) (h2 : SSs X g W L sts ns) : SSs X g W L (st :: sts) (mSeq ms ns) := PSs.imp (pss_cons h1 h2) fun D σ H ⟨F, fp, e, s, h⟩ => by
  refine ⟨F, fp, e, s, ?_⟩
  unfold mSeq at h
  cases q : ms e with
  | nx e1 =>
    rw [q] at h
    exact fun σ' F' H' fp' s' l' tr => ⟨F', fp', e1, s', SOut.trans h tr l'⟩
  | rt d e1 => rw [q] at h; exact h
  | bk e1 => rw [q] at h; exact h
  | ct e1 => rw [q] at h; exact h
  | ex c d e1 => rw [q] at h; exact h
  | no => rw [q] at h; exact h
theorem ss_pass : SS X g W L (.Pass pos) RS.nx := PS.imp ps_pass fun D σ H ⟨F, fp, e, s, h⟩ => h σ F H fp s (fun _ _ => rfl) Tr.refl
theorem ss_break : SS X g W L (.Break pos) RS.bk := PS.imp ps_break fun D σ H ⟨F, fp, e, s, h⟩ => h σ F H fp s (fun _ _ => rfl) Tr.refl
theorem ss_continue : SS X g W L (.Continue pos) RS.ct := PS.imp ps_continue fun D σ H ⟨F, fp, e, s, h⟩ => h σ F H fp s (fun _ _ => rfl) Tr.refl
/-- no comprehension stands as the whole value -/
def noComp : Expr → Bool
  | .ListComp .. => false
  | .SetComp .. => false
  | .DictComp .. => false
  | _ => true
theorem noSwap {v : Expr} (h : noComp v = true) {t : Option Expr} {l : Nat} {env : Env} : swapsWith v t l env = pure false := by
  cases v <;> first | rfl | cases h
def mExpr (m : ME) : MS := fun e => (m e).toS fun _ e1 => .nx e1
theorem ss_expr (h : SE X g W a m) (hc : noComp a = true) : SS X g W L (.Expr a pos) (mExpr m) := PS.imp (ps_expr h (noSwap hc)) fun D σ H ⟨F, fp, e, s, h⟩ => by
  refine RdE.iff.mpr ⟨F, fp, e, s, ?_⟩
  unfold mExpr at h
  cases q : m e with
  | ok d e1 =>
    rw [q] at h
    exact fun v F' H' fp' p s' t' tr => h σ F' H' fp' s' (fun _ _ => rfl) (tr.drop fun c z => .inl z)
  | ex c d e1 => rw [q] at h; exact h.x
  | no => rw [q] at h; exact h
def mRet (m : ME) : MS := fun e => (m e).toS fun d e1 => .rt d e1
theorem ss_ret (h : SE X g W a m) : SS X g W L (.Return (some a) pos) (mRet m) := PS.imp (ps_ret h) fun D σ H ⟨F, fp, e, s, h⟩ => by
  refine RdE.iff.mpr ⟨F, fp, e, s, ?_⟩
  unfold mRet at h
  cases q : m e with
  | ok d e1 =>
    rw [q] at h
    exact fun v F' H' fp' p s' t' tr => h v σ F' H' fp' p s' (fun _ _ => rfl) t' tr
  | ex c d e1 => rw [q] at h; exact h.x
  | no => rw [q] at h; exact h
def mRetN : MS := fun e => .rt .non e
theorem ss_retN : SS X g W L (.Return none pos) mRetN := PS.imp ps_retN fun D σ H ⟨F, fp, e, s, h⟩ => h .non σ F H fp [] s (fun _ _ => rfl) (TO.z .non) Tr.refl.nil
def mIfS (t : ME) (m n : MS) : MS := fun e => match t e with
  | .ok (.bl true) e1 => m e1
  | .ok (.bl false) e1 => n e1
  | .ok _ _ => .no
  | .ex c d e1 => .ex c d e1
  | .no => .no
theorem ss_if {sa sb : List Stmt} (hc : ST X g W c t) (ha : SSs X g W L sa ms) (hb : SSs X g W L sb ns) : SS X g W L (.If c sa sb pos) (mIfS t ms ns) := PS.imp (ps_if hc ha hb) fun D σ H ⟨F, fp, e, s, h⟩ => by
  refine ⟨F, fp, e, s, ?_⟩
  unfold mIfS at h
  cases q : t e with
  | ok d e1 =>
    rw [q] at h
    cases d with
    | bl b =>
      intro F1 H1 fp1 s1 tr1
      cases b with
      | true => rw [if_pos rfl]; exact ⟨F1, fp1, e1, s1, SOut.trans h tr1 fun _ _ => rfl⟩
      | false => rw [if_neg Bool.false_ne_true]; exact ⟨F1, fp1, e1, s1, SOut.trans h tr1 fun _ _ => rfl⟩
    | _ => exact h.elim
  | ex c d e1 => rw [q] at h; exact h.x
  | no => rw [q] at h; exact h
/-! ### targets -/
inductive CT where
  | v (i : Nat) | t (ts : List CT)
mutual
def put : CT → EV.D → DEnv → Option DEnv
  | .v i, d, e => some (e.set i (some d))
  | .t ts, d, e => match d with
    | .tup ds => puts ts ds e
    | _ => none
def puts : List CT → List EV.D → DEnv → Option DEnv
  | [], [], e => some e
  | t :: ts, d :: ds, e => (put t d e).bind fun e1 => puts ts ds e1
  | _, _, _ => none
end
/-- what a target asks: v stored, the value's own parts go with it -/
def GOk (G : GI) (L : List Nat) (t : CT) (r : TG) : Prop := ∀ {F H fp σ e p v d e' Q}, SO G F H fp σ e → TO G F H fp p v d → put t d e = some e' →
  (∀ σ' fp', SO G F H fp' σ' e' → (∀ i, i ∈ L → σ'[i]? = σ[i]?) → (∀ a, own fp' a → own fp a ∨ a ∈ p) → Q σ' H) → r v σ H Q
def GsOk (G : GI) (L : List Nat) (ts : List CT) (r : TGs) : Prop := ∀ {F H fp σ e p vs ds e' Q}, SO G F H fp σ e → TOs G F H fp p vs ds → puts ts ds e = some e' →
  (∀ σ' fp', SO G F H fp' σ' e' → (∀ i, i ∈ L → σ'[i]? = σ[i]?) → (∀ a, own fp' a → own fp a ∨ a ∈ p) → Q σ' H) → r vs σ H Q
theorem gok_v {i : Nat} (hi : i ∉ L) : GOk G L (.v i) (gName i) := fun {F H fp σ e p v d e' Q} s t h k => by
  injection h with h; subst h
  refine k _ _ (s.store t) (fun j hj => ?_) own_store
  rw [List.getElem?_set_ne]
  intro z; subst z; exact hi hj
theorem gsok_nil : GsOk G L [] gNil := fun {F H fp σ e p vs ds e' Q} s t h k => by
  cases ds with
  | nil =>
    obtain ⟨e1, _⟩ := t.r.invN
    injection h with h; subst h
    exact ⟨e1, k σ fp s (fun _ _ => rfl) fun _ z => .inl z⟩
  | cons d ds => cases h
theorem gsok_cons {t : CT} {ts : List CT} {r : TG} {rs : TGs} (h1 : GOk G L t r) (h2 : GsOk G L ts rs) : GsOk G L (t :: ts) (gCons r rs) := fun {F H fp σ e p vs ds e' Q} s to h k => by
  cases ds with
  | nil => cases h
  | cons d ds =>
    have h : ((put t d e).bind fun e1 => puts ts ds e1) = some e' := h
    cases q : put t d e with
    | none => rw [q] at h; cases h
    | some e1 =>
      rw [q] at h
      have h : puts ts ds e1 = some e' := h
      obtain ⟨v, ws, f, fs, rfl, ep, r1, r2⟩ := to.r.invD
      subst ep
      obtain ⟨n1, n2, n3⟩ := List.nodup_append.mp to.nd
      refine ⟨v, ws, rfl, h1 s ⟨r1, n1, fun a z => to.sep a (List.mem_append_left _ z), fun a z => to.dj a (List.mem_append_left _ z)⟩ q fun σ1 fp1 s1 l1 o1 => ?_⟩
      refine h2 s1 ⟨r2, n2, fun a z => to.sep a (List.mem_append_right _ z), fun a z w => ?_⟩ h fun σ2 fp2 s2 l2 o2 => ?_
      · rcases o1 a w with w | w
        · exact to.dj a (List.mem_append_right _ z) w
        · exact n3 a w a z rfl
      · refine k σ2 fp2 s2 (fun i z => (l2 i z).trans (l1 i z)) fun a z => ?_
        rcases o2 a z with z | z
        · exact (o1 a z).imp id fun z => List.mem_append_left _ z
        · exact .inr (List.mem_append_right _ z)
theorem gok_t {K : PySem.W.Frag} (hK : G.K = K) {ts : List CT} {r : TGs} {n : Nat} (hn : ts.length = n) (h : GsOk G L ts r) : GOk G L (.t ts) (gTup K n r) := fun {F H fp σ e p v d e' Q} s to q k => by
  cases d with
  | tup ds =>
    have q : puts ts ds e = some e' := q
    have hl : ∀ (ts : List CT) (ds : List EV.D) (e e' : DEnv), puts ts ds e = some e' → ds.length = ts.length := by
      intro ts
      induction ts with
      | nil => intro ds e e' h; cases ds with
        | nil => rfl
        | cons _ _ => cases h
      | cons t ts ih =>
        intro ds e e' h
        cases ds with
        | nil => cases h
        | cons d ds =>
          have h : ((put t d e).bind fun e1 => puts ts ds e1) = some e' := h
          cases q : put t d e with
          | none => rw [q] at h; cases h
          | some e1 => rw [q] at h; exact congrArg (· + 1) (ih ds e1 e' h)
    cases to with
    | mk r nd sep dj =>
      cases r with
      | tup ea ra =>
        refine ⟨_, _, rfl, SqT.of (s.sub _ _ ea), ?_, h s ⟨ra, nd, sep, dj⟩ q k⟩
        rw [ra.length, hl ts ds e e' q, hn]
  | _ => cases q
/-- target = value -/
def mAsg (t : CT) (m : ME) : MS := fun e => (m e).toS fun d e1 => match put t d e1 with
  | some e2 => .nx e2
  | none => .no
theorem RdS.asg {t : CT} {r : TG} (hg : GOk G L t r) {σ : L2.St} {H : Hp} (h : RdS G W L (mAsg t m) D σ H) : RdE G W m σ H fun x H1 => r x σ H1 D.nx := by
  obtain ⟨F, fp, e, s, h⟩ := h
  refine RdE.iff.mpr ⟨F, fp, e, s, ?_⟩
  unfold mAsg at h
  cases q : m e with
  | ok d e1 =>
    rw [q] at h
    intro v F' H' fp' p s' t' tr
    rw [RE.toS_ok] at h
    cases q2 : put t d e1 with
    | none => rw [q2] at h; exact h.elim
    | some e2 =>
      rw [q2] at h
      exact hg s' t' q2 fun σ2 fp2 s2 l2 o2 => h σ2 F' H' fp2 s2 l2 (tr.drop fun c z => (o2 c z))
  | ex c d e1 => rw [q] at h; exact h.x
  | no => rw [q] at h; exact h
theorem ss_asg {tg : Expr} {t : CT} {r : TG} (h : SE X g W a m) (hg : PG X tg r) (hk : GOk (gOf X g) L t r) (hs : swapsWithSole [tg] a pos.line X.env = pure false) (hw : swappedStores [tg] a X.env = pure none)
    (h1 : (assignEach [tg] X.env).map (·.2) = [assign tg X.env]) : SS X g W L (.Assign [tg] a pos) (mAsg t m) := PS.imp (ps_asg h hg hs hw h1) fun D σ H h => RdS.asg hk h
theorem ss_set {i : Nat} {x : Str} (hN : X.N.Nodup) (hi : X.N[i]? = some x) (hx : Loc X.env.scope x) (h : SE X g W a m) (hL : i ∉ L) (hs : swapsWith a (some (.Name x p2)) pos.line X.env = pure false) (hf : X.fn x = true ∨ X.env.scope.names.lookup x = some .local) :
    SS X g W L (.Assign [.Name x p2] a pos) (mAsg (.v i) m) := PS.imp (ps_set hN hi hx h hs hf) fun D σ H h => RdS.asg (gok_v hL) h
/-- a, b = x, y: two names, three names -/
def mPar (is : List Nat) (ms : List Ar) : MS := fun e => match mA ms e with
  | .ok as e1 => match allT as with
    | some ds => match puts (is.map CT.v) ds e1 with
      | some e2 => .nx e2
      | none => .no
    | none => .no
  | .ex c d e1 => .ex c d e1
  | .no => .no
theorem RdS.par {is : List Nat} {ms : List Ar} {σ : L2.St} {H : Hp} (hL : ∀ i, i ∈ is → i ∉ L) (h : RdS G W L (mPar is ms) D σ H) :
    ∃ k : List V → Hp → Prop, RdA G W ms σ H k ∧ ∀ vs H1, k vs H1 → vs.length = is.length ∧ D.nx ((is.zip vs).foldl (fun s z => s.set z.1 (some z.2)) σ) H1 := by
  refine ⟨fun vs H1 => vs.length = is.length ∧ D.nx ((is.zip vs).foldl (fun s z => s.set z.1 (some z.2)) σ) H1, ?_, fun _ _ z => z⟩
  obtain ⟨F, fp, e, s, h⟩ := h
  refine ⟨F, fp, e, s, ?_⟩
  unfold mPar at h
  cases q : mA ms e with
  | ok as e1 =>
    rw [q] at h
    simp only at h
    cases q2 : allT as with
    | none => rw [q2] at h; exact h.elim
    | some ds =>
      rw [q2] at h
      simp only at h
      cases q3 : puts (is.map CT.v) ds e1 with
      | none => rw [q3] at h; exact h.elim
      | some e2 =>
        rw [q3] at h
        simp only at h
        intro vs F1 H1 fp1 p s1 t tr
        have go : ∀ (is : List Nat), (∀ i, i ∈ is → i ∉ L) → ∀ (vs : List V) (ds : List EV.D) (p : List Addr) (fp1 : Nat → List Addr) (σ1 : L2.St) (e1 e2 : DEnv), SO G F1 H1 fp1 σ1 e1 → TOs G F1 H1 fp1 p vs ds → puts (is.map CT.v) ds e1 = some e2 →
            vs.length = is.length ∧ ∃ fp2, SO G F1 H1 fp2 ((is.zip vs).foldl (fun s z => s.set z.1 (some z.2)) σ1) e2 ∧ (∀ i, i ∈ L → ((is.zip vs).foldl (fun s z => s.set z.1 (some z.2)) σ1)[i]? = σ1[i]?) ∧ ∀ a, own fp2 a → own fp1 a ∨ a ∈ p := by
          intro is
          induction is with
          | nil =>
            intro _ vs ds p fp1 σ1 e1 e2 s1 t1 h
            cases ds with
            | nil =>
              obtain ⟨e1, _⟩ := t1.r.invN
              subst e1
              injection h with h; subst h
              exact ⟨rfl, fp1, s1, fun _ _ => rfl, fun _ z => .inl z⟩
            | cons _ _ => cases h
          | cons i is ih =>
            intro hL vs ds p fp1 σ1 e1 e2 s1 t1 h
            cases ds with
            | nil => cases h
            | cons d ds =>
              have h : puts (is.map CT.v) ds (e1.set i (some d)) = some e2 := h
              obtain ⟨v, ws, f, fs, rfl, ep, r1, r2⟩ := t1.r.invD
              subst ep
              obtain ⟨n1, n2, n3⟩ := List.nodup_append.mp t1.nd
              have s2 := s1.store (i := i) (p := f) (v := v) (d := d) ⟨r1, n1, fun a z => t1.sep a (List.mem_append_left _ z), fun a z => t1.dj a (List.mem_append_left _ z)⟩
              obtain ⟨h1, fp2, s3, h3, h4⟩ := ih (fun j z => hL j (List.mem_cons_of_mem _ z)) ws ds fs _ _ _ e2 s2 ⟨r2, n2, fun a z => t1.sep a (List.mem_append_right _ z), fun a z w => by
                rcases own_store a w with w | w
                · exact t1.dj a (List.mem_append_right _ z) w
                · exact n3 a w a z rfl⟩ h
              refine ⟨congrArg (· + 1) h1, fp2, s3, fun j z => (h3 j z).trans ?_, fun a z => ?_⟩
              · rw [List.getElem?_set_ne]
                intro w; subst w
                exact hL i (List.mem_cons_self ..) z
              · rcases h4 a z with z | z
                · exact (own_store a z).imp id fun z => List.mem_append_left _ z
                · exact .inr (List.mem_append_right _ z)
        obtain ⟨h1, fp2, s2, h3, h4⟩ := go is hL vs ds p fp1 σ e1 e2 s1 ⟨t.r.all q2, t.nd, t.sep, t.dj⟩ q3
        exact ⟨h1, h _ F1 H1 fp2 s2 h3 (tr.drop fun c z => h4 c z)⟩
  | ex c d e1 => rw [q] at h; exact h.x
  | no => rw [q] at h; exact h
theorem PAimp {σ : L2.St} {H : Hp} {ms : List Ar} {k k' : List V → Hp → Prop} (h : RdA G W ms σ H k) (hk : ∀ vs H1, k vs H1 → k' vs H1) : RdA G W ms σ H k' := by
  obtain ⟨F, fp, e, s, h⟩ := h
  refine ⟨F, fp, e, s, ?_⟩
  cases q : mA ms e with
  | ok as e1 => rw [q] at h; exact fun vs F1 H1 fp1 p s1 t tr => hk _ _ (h vs F1 H1 fp1 p s1 t tr)
  | ex c d e1 => rw [q] at h; exact h
  | no => rw [q] at h; exact h
theorem ss_par {i j : Nat} {x y : Str} {px py pt : Pos} {kt k2 : Nat} {pt2 : Pos} {ms : List Ar} (hc : X.calm = true) (hN : X.N.Nodup) (hi : X.N[i]? = some x) (hj : X.N[j]? = some y) (hij : i ≠ j) (hx : X.env.scope.names.lookup x = some .local) (hy : X.env.scope.names.lookup y = some .local)
    (ha : SA X g W [a, b] ms) (hw : swappedStores [.Tuple [.Name x px, .Name y py] kt pt] (.Tuple [a, b] k2 pt2) X.env = pure (some [x, y])) (hL : i ∉ L ∧ j ∉ L) :
    SS X g W L (.Assign [.Tuple [.Name x px, .Name y py] kt pt] (.Tuple [a, b] k2 pt2) pos) (mPar [i, j] ms) := PS.imp (L2.ps_par hc hN hi hj hij hx hy ha hw) fun D σ H h => by
  obtain ⟨k, h1, h2⟩ := RdS.par (is := [i, j]) (fun q z => by simp at z; rcases z with rfl | rfl; exact hL.1; exact hL.2) h
  refine PAimp h1 fun vs H1 z => ?_
  obtain ⟨h3, h4⟩ := h2 vs H1 z
  match vs, h3 with
  | [v, w], _ => exact ⟨v, w, rfl, h4⟩
theorem ss_par3 {i j l : Nat} {x y z : Str} {px py pz pt : Pos} {kt k2 : Nat} {pt2 : Pos} {ms : List Ar} (hc : X.calm = true) (hN : X.N.Nodup) (hi : X.N[i]? = some x) (hj : X.N[j]? = some y) (hl : X.N[l]? = some z) (hij : i ≠ j) (hil : i ≠ l) (hjl : j ≠ l) (hx : X.env.scope.names.lookup x = some .local) (hy : X.env.scope.names.lookup y = some .local) (hz : X.env.scope.names.lookup z = some .local)
    (ha : SA X g W [a, b, c] ms) (hw : swappedStores [.Tuple [.Name x px, .Name y py, .Name z pz] kt pt] (.Tuple [a, b, c] k2 pt2) X.env = pure (some [x, y, z])) (hL : i ∉ L ∧ j ∉ L ∧ l ∉ L) :
    SS X g W L (.Assign [.Tuple [.Name x px, .Name y py, .Name z pz] kt pt] (.Tuple [a, b, c] k2 pt2) pos) (mPar [i, j, l] ms) := PS.imp (L2.ps_par3 hc hN hi hj hl hij hil hjl hx hy hz ha hw) fun D σ H h => by
  obtain ⟨k, h1, h2⟩ := RdS.par (is := [i, j, l]) (fun q w => by simp at w; rcases w with rfl | rfl | rfl; exact hL.1; exact hL.2.1; exact hL.2.2) h
  refine PAimp h1 fun vs H1 z => ?_
  obtain ⟨h3, h4⟩ := h2 vs H1 z
  match vs, h3 with
  | [u, v, w], _ => exact ⟨u, v, w, rfl, h4⟩
end
end EV

/-! EvI: what is written: items of lists and dicts, append, pop. -/
namespace EV
open PySem PySem.Spec PyProof.Rows L2
section
variable {X : Cx} {N : List Str} {sc : Scope} {fr : List Str} {g : GF} {G : GI} {W : WX} {L : List Nat} {a b c : Expr} {es : List Expr} {st : Stmt} {sts : List Stmt} {pos p2 p3 p4 : Pos} {oa ob : Op} {m n t : ME} {ms ns : MS} {F H F1 H1 F' H' : Hp} {fp fp1 fp' : Nat → List Addr} {σ σ1 : L2.St} {e e' : DEnv} {D : Ends}
/-- a slot's own thing is written -/
theorem SO.mutate {k : Nat} {d0 d1 : EV.D} {v : V} {p q : List Addr} (s : SO G F H fp σ e) (h : e[k]? = some (some d0)) (hv : σ[k]? = some (some v)) (hp : ∀ a, a ∈ p → F a = none ∧ ¬ own fp a)
    (hH : ∀ b o, b ∉ fp k → H b = some o → H' b = some o) (r : RO G F H' q v d1) (nd : q.Nodup) (sub : ∀ a, a ∈ q → a ∈ fp k ∨ a ∈ p) : SO G F H' (fun j => if j = k then q else fp j) σ (e.set k (some d1)) where
  sub := fun b o z => hH b o (fun w => by rw [s.sep k b w] at z; cases z) (s.sub b o z)
  rep := fun j x hx => by
    by_cases hj : j = k
    · subst hj
      have hl : j < e.length := (List.getElem?_eq_some_iff.mp h).1
      rw [List.getElem?_set_self hl] at hx
      cases hx
      exact ⟨v, hv, by rw [if_pos rfl]; exact r⟩
    · rw [List.getElem?_set_ne (Ne.symm hj)] at hx
      obtain ⟨w, h1, r1⟩ := s.rep j x hx
      exact ⟨w, h1, by rw [if_neg hj]; exact r1.mono (fun _ _ z => z) fun b z o => hH b o fun w => hj (s.dj j k b z w)⟩
  nd := fun j => by
    split
    · exact nd
    · exact s.nd j
  dj := fun i j b h1 h2 => by
    split at h1
    · rename_i hi
      split at h2
      · rename_i hj; rw [hi, hj]
      · rename_i hj
        rcases sub b h1 with z | z
        · exact absurd (s.dj k j b z h2) (Ne.symm hj)
        · exact absurd ⟨j, h2⟩ (hp b z).2
    · rename_i hi
      split at h2
      · rcases sub b h2 with z | z
        · exact absurd (s.dj i k b h1 z) hi
        · exact absurd ⟨i, h1⟩ (hp b z).2
      · exact s.dj i j b h1 h2
  sep := fun j b z => by
    split at z
    · rcases sub b z with z | z
      · exact s.sep k b z
      · exact (hp b z).1
    · exact s.sep j b z
  th := fun j b z => by
    split at z
    · exact r.there b z
    · rename_i hj
      obtain ⟨o, ho⟩ := s.th j b z
      exact ⟨o, hH b o (fun w => hj (s.dj j k b z w)) ho⟩
  len := by rw [List.length_set]; exact s.len
theorem Tr.mutate {k : Nat} {p q : List Addr} {O : Addr → Prop} (hH : ∀ b o, b ∉ fp k → H b = some o → H' b = some o) (sub : ∀ a, a ∈ q → a ∈ fp k ∨ a ∈ p) : Tr F H (fun a => own fp a ∨ a ∈ p) F H' (own fun j => if j = k then q else fp j) where
  ff := fun _ _ z => z
  fr := fun b o n z => hH b o (fun w => n (.inl ⟨k, w⟩)) z
  ow := fun b ⟨j, z⟩ => by
    dsimp only at z
    split at z
    · exact .inl ((sub b z).imp (fun z => ⟨k, z⟩) id)
    · exact .inl (.inl ⟨j, z⟩)
  fz := fun _ _ z => .inl z
theorem ROs.put {p : List Addr} {v : V} {d : EV.D} (r : RO G F H p v d) : ∀ {j : Nat} {fs : List Addr} {vs : List V} {ds : List EV.D}, ROs G F H fs vs ds → j < ds.length → fs.Nodup → p.Nodup → (∀ a, a ∈ fs → a ∈ p → False) →
    ∃ q, ROs G F H q (vs.set j v) (ds.set j d) ∧ q.Nodup ∧ ∀ a, a ∈ q → a ∈ fs ∨ a ∈ p
  | _, _, _, [], _, h, _, _, _ => nomatch h
  | 0, _, _, _ :: _, rs, _, n1, n2, n3 => by
    obtain ⟨w, ws, f, fs, rfl, rfl, r1, r2⟩ := rs.invD
    obtain ⟨m1, m2, m3⟩ := List.nodup_append.mp n1
    refine ⟨p ++ fs, .cons r r2, List.nodup_append.mpr ⟨n2, m2, fun x hx y hy z => n3 y (List.mem_append_right _ hy) (z ▸ hx)⟩, fun a z => ?_⟩
    exact (List.mem_append.mp z).elim .inr fun z => .inl (List.mem_append_right _ z)
  | j + 1, _, _, x :: ds, rs, h, n1, n2, n3 => by
    obtain ⟨w, ws, f, fs, rfl, rfl, r1, r2⟩ := rs.invD
    obtain ⟨m1, m2, m3⟩ := List.nodup_append.mp n1
    obtain ⟨q, h1, h2, h3⟩ := ROs.put r (j := j) r2 (by simpa using h) m2 n2 fun a z => n3 a (List.mem_append_right _ z)
    refine ⟨f ++ q, .cons r1 h1, List.nodup_append.mpr ⟨m1, h2, fun x hx y hy z => ?_⟩, fun a z => ?_⟩
    · subst z
      rcases h3 x hy with w | w
      · exact m3 x hx x w rfl
      · exact n3 x (List.mem_append_left _ hx) w
    · rcases List.mem_append.mp z with z | z
      · exact .inl (List.mem_append_left _ z)
      · exact (h3 a z).imp (fun z => List.mem_append_right _ z) id
/-- a name's own list -/
theorem RO.lo_inv {p : List Addr} {v : V} {ds : List EV.D} (r : RO G F H p v (.lst true ds)) : ∃ a vs fs, v = .ref a ∧ p = a :: fs ∧ H a = some (.lst vs) ∧ ROs G F H fs vs ds := by
  cases r with
  | lo e r => exact ⟨_, _, _, rfl, rfl, e, r⟩
theorem RO.dko_inv {p : List Addr} {v : V} {ds : List (Key × EV.D)} (r : RO G F H p v (.dk true ds)) : ∃ a kvs, v = .ref a ∧ p = [a] ∧ H a = some (.dK kvs) ∧ kvs.map (·.1) = ds.map (·.1) ∧ ROs G F H [] (kvs.map (·.2)) (ds.map (·.2)) := by
  cases r with
  | dko e k r => exact ⟨_, _, rfl, rfl, e, k, r⟩
theorem RO.dto_inv {p : List Addr} {v : V} {ds : List (List Key × EV.D)} (r : RO G F H p v (.dt true ds)) : ∃ a kvs, v = .ref a ∧ p = [a] ∧ H a = some (.dT kvs) ∧ kvs.map (·.1) = ds.map (·.1) ∧ ROs G F H [] (kvs.map (·.2)) (ds.map (·.2)) := by
  cases r with
  | dto e k r => exact ⟨_, _, rfl, rfl, e, k, r⟩
/-- a dict's entry put -/
def putD {κ : Type} [DecidableEq κ] (kds : List (κ × EV.D)) (k : κ) (d : EV.D) : List (κ × EV.D) :=
  if (kds.any fun kv => decide (kv.1 = k)) then kds.map fun kv => if kv.1 = k then (kv.1, d) else kv else kds ++ [(k, d)]
/-- what becomes of a list or a dict where an item is stored -/
def setD : EV.D → EV.D → EV.D → Option EV.D
  | .lst true xs, .int i, d => (ixN xs.length i).map fun j => .lst true (xs.set j d)
  | .dk true kds, k, d => (keyD k).bind fun k => if kds.length < LIM then some (.dk true (putD kds k (frz d))) else none
  | .dt true kds, .tup ks, d => (keysD ks).bind fun k => if kds.length < LIM then some (.dt true (putD kds k (frz d))) else none
  | _, _, _ => none
theorem any_keys {κ : Type} [DecidableEq κ] (k : κ) : ∀ {kvs : List (κ × V)} {kds : List (κ × EV.D)}, kvs.map (·.1) = kds.map (·.1) → (kvs.any fun kv => decide (kv.1 = k)) = kds.any fun kv => decide (kv.1 = k)
  | [], [], _ => rfl
  | [], _ :: _, h => by cases h
  | _ :: _, [], h => by cases h
  | a :: kvs, b :: kds, h => by
    have h1 : a.1 = b.1 ∧ kvs.map (·.1) = kds.map (·.1) := by simpa using h
    show (decide (a.1 = k) || kvs.any _) = (decide (b.1 = k) || kds.any _)
    rw [h1.1, any_keys k h1.2]
theorem map_keys {κ : Type} [DecidableEq κ] (k : κ) {v : V} {d : EV.D} (r : RO G F H [] v d) : ∀ {kvs : List (κ × V)} {kds : List (κ × EV.D)}, kvs.map (·.1) = kds.map (·.1) → ROs G F H [] (kvs.map (·.2)) (kds.map (·.2)) →
    (kvs.map fun kv => if kv.1 = k then (kv.1, v) else kv).map (·.1) = (kds.map fun kv => if kv.1 = k then (kv.1, d) else kv).map (·.1) ∧
    ROs G F H [] ((kvs.map fun kv => if kv.1 = k then (kv.1, v) else kv).map (·.2)) ((kds.map fun kv => if kv.1 = k then (kv.1, d) else kv).map (·.2))
  | [], [], _, _ => ⟨rfl, .nil⟩
  | [], _ :: _, h, _ => by cases h
  | _ :: _, [], h, _ => by cases h
  | a :: kvs, b :: kds, h, rs => by
    have h1 : a.1 = b.1 ∧ kvs.map (·.1) = kds.map (·.1) := by simpa using h
    obtain ⟨r1, r2⟩ := rs.unconsZ
    obtain ⟨h2, h3⟩ := map_keys k r h1.2 r2
    simp only [List.map_cons]
    by_cases e : b.1 = k
    · rw [if_pos (h1.1.trans e), if_pos e]
      exact ⟨by rw [h2, h1.1], ROs.consZ r h3⟩
    · rw [if_neg (fun z => e (h1.1.symm.trans z)), if_neg e]
      exact ⟨by rw [h2, h1.1], ROs.consZ r1 h3⟩
theorem putD_rep {κ : Type} [DecidableEq κ] (k : κ) {v : V} {d : EV.D} (r : RO G F H [] v d) {kvs : List (κ × V)} {kds : List (κ × EV.D)} (h : kvs.map (·.1) = kds.map (·.1)) (rs : ROs G F H [] (kvs.map (·.2)) (kds.map (·.2))) :
    (putK kvs k v).map (·.1) = (putD kds k d).map (·.1) ∧ ROs G F H [] ((putK kvs k v).map (·.2)) ((putD kds k d).map (·.2)) := by
  have e : putK kvs k v = if (kvs.any fun kv => decide (kv.1 = k)) then kvs.map fun kv => if kv.1 = k then (kv.1, v) else kv else kvs ++ [(k, v)] := rfl
  rw [e]
  unfold putD
  rw [any_keys k h]
  split
  · exact map_keys k r h rs
  · rw [List.map_append, List.map_append, List.map_append, List.map_append, h]
    exact ⟨rfl, (rs.append (ROs.one r)).cast rfl⟩
/-- o[i] = v by values: a list, a dict -/
theorem set_any (hu : X.A.units + 1 < cLine) : PSet X (fun o i v H Q => rSetL o i v H Q ∨ ∃ a H', o = .ref a ∧ DPut H a i v H' ∧ Q H') := by
  intro pins s σ H o i v ov iv u Q I ro ri rv h
  rcases h with h | ⟨a, H', rfl, hp, q⟩
  · exact set_list pins s σ H o i v ov iv u Q I ro ri rv h
  · cases (show ov = Value.ref a from ro)
    exact d_setItem hu I hp ri rv fun s' I' => ⟨H', I', q⟩
theorem set_ok {k : Nat} {d0 d1 di d : EV.D} {v x y : V} {p : List Addr} {Q : Hp → Prop} (s : SO G F H fp σ e) (h : e[k]? = some (some d0)) (hv : σ[k]? = some (some x)) (t : TO G F H fp p v d) (ri : RB G F H y di) (hd : setD d0 di d = some d1)
    (q : ∀ F' H' fp', SO G F' H' fp' σ (e.set k (some d1)) → Tr F H (fun a => own fp a ∨ a ∈ p) F' H' (own fp') → Q H') : rSetL x y v H Q ∨ ∃ a H', x = .ref a ∧ DPut H a y v H' ∧ Q H' := by
  obtain ⟨x', hx', r⟩ := s.rep k d0 h
  rw [hv] at hx'
  cases hx'
  cases d0 with
  | lst o xs =>
    cases o with
    | false => cases hd
    | true =>
      cases di <;> first | (cases hd; done) | skip
      rename_i i
      have hd : (ixN xs.length i).map (fun j => EV.D.lst true (xs.set j d)) = some d1 := hd
      cases qj : ixN xs.length i with
      | none => rw [qj] at hd; cases hd
      | some j =>
        rw [qj] at hd
        injection hd with hd; subst hd
        obtain ⟨a, vs, fs, rfl, ep, ha, rs⟩ := r.lo_inv
        have nd := s.nd k
        rw [ep] at nd
        obtain ⟨n1, n2⟩ := List.nodup_cons.mp nd
        have own_fs : ∀ c, c ∈ fs → own fp c := fun c z => ⟨k, by rw [ep]; exact List.mem_cons_of_mem _ z⟩
        have own_a : own fp a := ⟨k, by rw [ep]; exact List.mem_cons_self ..⟩
        obtain ⟨w, h1, h2, h3⟩ := ROs.put t.r (j := j) rs (ixN_seq qj).2.1 n2 t.nd fun c z w => t.dj c w (own_fs c z)
        have hH : ∀ b o, b ∉ fp k → H b = some o → upd H a (.lst (vs.set j v)) b = some o := fun b o z w => by
          rw [upd_ne]
          · exact w
          · intro u; subst u; rw [ep] at z; exact z (List.mem_cons_self ..)
        have na : a ∉ w := fun z => by
          rcases h3 a z with z | z
          · exact n1 z
          · exact t.dj a z own_a
        have sub : ∀ c, c ∈ (a :: w) → c ∈ fp k ∨ c ∈ p := fun c z => by
          rcases List.mem_cons.mp z with z | z
          · rw [z, ep]; exact .inl (List.mem_cons_self ..)
          · exact (h3 c z).imp (fun z => by rw [ep]; exact List.mem_cons_of_mem _ z) id
        refine .inl ⟨a, vs, i, j, rfl, ri.int_inv, ha, by rw [rs.length]; exact qj, q F _ _ (s.mutate h hv (fun c z => ⟨t.sep c z, t.dj c z⟩) hH (.lo upd_same (h1.mono (fun _ _ z => z) fun c z o u => ?_)) (List.nodup_cons.mpr ⟨na, h2⟩) sub) (Tr.mutate (O := fun _ => True) hH sub)⟩
        rw [upd_ne]
        · exact u
        · intro z2; subst z2; exact na z
  | dk o kds =>
    cases o with
    | false => cases di <;> cases hd
    | true =>
      have hd : ((keyD di).bind fun k => if kds.length < LIM then some (EV.D.dk true (putD kds k (frz d))) else none) = some d1 := by
        cases di <;> exact hd
      cases qk : keyD di with
      | none => rw [qk] at hd; cases hd
      | some key =>
        rw [qk] at hd
        have hd : (if kds.length < LIM then some (EV.D.dk true (putD kds key (frz d))) else none) = some d1 := hd
        split at hd
        · rename_i hl
          injection hd with hd; subst hd
          obtain ⟨a, kvs, rfl, ep, ha, hk, rs⟩ := r.dko_inv
          have s2 := s.share t.sep t.dj
          have hlen : kvs.length = kds.length := by
            have := congrArg List.length hk
            simpa using this
          obtain ⟨h1, h2⟩ := putD_rep key t.share hk (rs.monoZ (addF_le t.sep))
          have hH : ∀ b o, b ∉ fp k → H b = some o → upd H a (.dK (putK kvs key v)) b = some o := fun b o z w => by
            rw [upd_ne]
            · exact w
            · intro u; subst u; rw [ep] at z; exact z (List.mem_cons_self ..)
          refine .inr ⟨a, _, rfl, ?_, q _ _ _ (s2.mutate (p := []) (q := [a]) (H' := upd H a (.dK (putK kvs key v))) h hv (fun c z => nomatch z) hH (.dko upd_same h1 (h2.monoZ fun _ _ z => z)) (by simp) fun c z => .inl (by rw [ep]; exact z)) ((Tr.share (O := own fp) t.sep).trans ((Tr.mutate (p := []) (q := [a]) (O := fun _ => True) hH fun c z => .inl (by rw [ep]; exact z)).weak (fun c z => z.elim id fun z => nomatch z) fun c z => .inl z))⟩
          rw [keyD_rep ri qk]
          exact DPut.k ha (by rw [hlen]; exact LIM_lineS (Nat.le_of_lt hl))
        · cases hd
  | dt o kds =>
    cases o with
    | false => cases di <;> cases hd
    | true =>
      cases di <;> first | (cases hd; done) | skip
      rename_i ks
      have hd : ((keysD ks).bind fun k => if kds.length < LIM then some (EV.D.dt true (putD kds k (frz d))) else none) = some d1 := hd
      cases qk : keysD ks with
      | none => rw [qk] at hd; cases hd
      | some key =>
        rw [qk] at hd
        have hd : (if kds.length < LIM then some (EV.D.dt true (putD kds key (frz d))) else none) = some d1 := hd
        split at hd
        · rename_i hl
          injection hd with hd; subst hd
          obtain ⟨a, kvs, rfl, ep, ha, hk, rs⟩ := r.dto_inv
          obtain ⟨b, us, rfl, hb, rb⟩ := ri.tup_inv
          rw [keysD_rep rb qk] at hb
          have s2 := s.share t.sep t.dj
          have hlen : kvs.length = kds.length := by
            have := congrArg List.length hk
            simpa using this
          obtain ⟨h1, h2⟩ := putD_rep key t.share hk (rs.monoZ (addF_le t.sep))
          have hH : ∀ b o, b ∉ fp k → H b = some o → upd H a (.dT (putK kvs key v)) b = some o := fun b o z w => by
            rw [upd_ne]
            · exact w
            · intro u; subst u; rw [ep] at z; exact z (List.mem_cons_self ..)
          exact .inr ⟨a, _, rfl, DPut.t ha (s.sub _ _ hb) (by rw [hlen]; exact LIM_lineS (Nat.le_of_lt hl)), q _ _ _ (s2.mutate (p := []) (q := [a]) (H' := upd H a (.dT (putK kvs key v))) h hv (fun c z => nomatch z) hH (.dto upd_same h1 (h2.monoZ fun _ _ z => z)) (by simp) fun c z => .inl (by rw [ep]; exact z)) ((Tr.share (O := own fp) t.sep).trans ((Tr.mutate (p := []) (q := [a]) (O := fun _ => True) hH fun c z => .inl (by rw [ep]; exact z)).weak (fun c z => z.elim id fun z => nomatch z) fun c z => .inl z))⟩
        · cases hd
  | _ => cases di <;> cases hd
/-- x[i] = e -/
def mSet (k : Nat) (oi : Op) (m : ME) : MS := fun e => (m e).toS fun d e1 => match e1[k]? with
  | some (some _) => match oi.run e1 with
    | .ok p e2 => match p.see e2 (fun di e3 => match e3[k]? with
      | some (some d0) => match setD d0 di d with
        | some d1 => .ok .non (e3.set k (some d1))
        | none => .no
      | _ => .no) with
      | .ok _ e4 => .nx e4
      | _ => .no
    | .ex c d e2 => .ex c d e2
    | .no => .no
  | _ => .no
theorem ss_sub {k : Nat} {x : Str} (C : Cn X N sc fr) (hx : varB N sc k x = true) (hi : SOp X g W b oa) (hv : SE X g W a m) (hs : swapsWithSole [.Subscript (.Name x p2) b p3] a pos.line X.env = pure false) (hw : swappedStores [.Subscript (.Name x p2) b p3] a X.env = pure none)
    (h1 : (assignEach [.Subscript (.Name x p2) b p3] X.env).map (·.2) = [assign (.Subscript (.Name x p2) b p3) X.env])
    (ha : ∀ v, assign (.Subscript (.Name x p2) b p3) X.env v = (do
      let ov ← holding [v] (eval (.Name x p2) X.env)
      let iv ← holding [v, ov] (eval b X.env)
      standAt p3
      holding [v, ov, iv] (setItem ov iv v)
      release [v, ov, iv] [])) : SS X g W L (.Assign [.Subscript (.Name x p2) b p3] a pos) (mSet k oa m) :=
  PS.imp (ps_asg hv (pg_sub (pv_ok C hx) hi (set_any C.hu1) ha) hs hw h1) fun D σ H ⟨F, fp, e, s, h⟩ => by
  refine RdE.iff.mpr ⟨F, fp, e, s, ?_⟩
  unfold mSet at h
  cases q : m e with
  | ok d e1 =>
    rw [q] at h
    rw [RE.toS_ok] at h
    intro v F1 H1 fp1 p s1 t1 tr1
    cases q1 : e1[k]? with
    | none => rw [q1] at h; exact h.elim
    | some o1 =>
      cases o1 with
      | none => rw [q1] at h; exact h.elim
      | some d0' =>
        rw [q1] at h
        simp only at h
        obtain ⟨u, hu, _⟩ := s1.rep k d0' q1
        refine ⟨u, hu, ?_⟩
        refine RdO.step oa s1 ?_
        cases q2 : oa.run e1 with
        | ok po e2 =>
          rw [q2] at h
          simp only at h
          intro y F2 H2 fp2 s2 tr2 v2
          have t2 := t1.keep tr2.nil fun c z => Or.inl z
          cases q3 : (po.see e2 fun di e3 => match e3[k]? with
            | some (some d0) => match setD d0 di d with
              | some d1 => RE.ok .non (e3.set k (some d1))
              | none => .no
            | _ => .no) with
          | no => rw [q3] at h; exact h.elim
          | ex c d e4 => rw [q3] at h; exact h.elim
          | ok dn e4 =>
            rw [q3] at h
            simp only at h
            obtain ⟨di, e3, F3, fp3, s3, b3, tr3, kk⟩ := PV.see_ok s2 v2 q3 (by intro z; cases z)
            have t3 := t2.keep tr3.nil fun c z => Or.inl z
            cases q4 : e3[k]? with
            | none => rw [q4] at kk; cases kk
            | some o4 =>
              cases o4 with
              | none => rw [q4] at kk; cases kk
              | some d0 =>
                rw [q4] at kk
                simp only at kk
                cases q5 : setD d0 di d with
                | none => rw [q5] at kk; cases kk
                | some d1 =>
                  rw [q5] at kk
                  injection kk with _ kk; subst kk
                  refine set_ok s3 q4 hu t3 b3 q5 fun F' H' fp' s' tr' => h σ F' H' fp' s' (fun _ _ => rfl) ?_
                  exact ((tr1.trans ((tr2.trans tr3).weak (P := fun c => own fp1 c ∨ c ∈ p) (P1 := fun c => own fp3 c ∨ c ∈ p) (fun _ z => .inl z) fun c z => z.imp id .inr)).trans tr')
        | ex c d2 e2 =>
          rw [q2] at h
          intro dx v2 F2 H2 fp2 p2 s2 t2 tr2 hx2
          exact h dx v2 σ F2 H2 fp2 p2 s2 (fun _ _ => rfl) t2 ((tr1.trans (tr2.weak (P := fun c => own fp1 c ∨ c ∈ p) (P1 := fun c => (own fp2 c ∨ c ∈ p2) ∨ c ∈ p) (fun _ z => .inl z) fun c z => z.imp id .inr)).drop fun c z => .inl z) hx2
        | no => rw [q2] at h; exact h
  | ex c d e1 => rw [q] at h; exact h.x
  | no => rw [q] at h; exact h
/-- x.append(e) -/
def mApp (k : Nat) (m : ME) : ME := fun e => match e[k]? with
  | some (some (.lst true _)) => (m e).bind fun d e1 => match e1[k]? with
    | some (some (.lst true xs)) => if xs.length < LIM then .ok .non (e1.set k (some (.lst true (xs ++ [d])))) else .no
    | _ => .no
  | _ => .no
theorem fewOk {cpos : Pos} {env : Env} (hs : starEach [a] env = (false, eval a env) :: starEach [] env) : ((backTo cpos (starEach [a] env)).all (fun x => !x.1) && (backToKw cpos (keywordEach [] env)).all (fun x => x.1.isSome)
      && decide (([a] : List Expr).length + ([] : List Keyword).length + (if ([] : List Keyword).isEmpty then 0 else 1) < 30)) = true := by
  rw [hs]; rfl
theorem se_app {k : Nat} {x : Str} (C : Cn X N sc fr) (hx : varB N sc k x = true) (hm : SE X g W a m) (hs : starEach [a] X.env = (false, eval a X.env) :: starEach [] X.env) (hl : (p3.endLine == pos.line) = true) :
    SE X g W (.Call (.Attribute (.Name x p2) "append" p3) [a] [] pos) (mApp k m) := PE.imp (pe_bm PySem.F.plainAttrs_list PySem.F.slot_list_append PySem.F.type_list_append mt_append (pv_ok C hx) (pa_cons hm pa_nil hs) rfl (fewOk hs) hl hs) fun σ H Q h => by
  obtain ⟨F, fp, e, s, h⟩ := RdE.iff.mp h
  unfold mApp at h
  cases q : e[k]? with
  | none => rw [q] at h; exact h.elim
  | some o =>
    cases o with
    | none => rw [q] at h; exact h.elim
    | some d0 =>
      cases d0 with
      | lst o xs0 =>
        cases o with
        | false => rw [q] at h; exact h.elim
        | true =>
          rw [q] at h
          simp only at h
          obtain ⟨v, hv, r⟩ := s.rep k _ q
          obtain ⟨a0, vs0, fs0, rfl, ep0, ha0, rs0⟩ := r.lo_inv
          refine ⟨.ref a0, hv, .inl ⟨rfl, vs0, SqL.of ha0⟩, ?_⟩
          refine RdE.iff.mpr ⟨F, fp, e, s, ?_⟩
          cases q1 : m e with
          | ok d e1 =>
            rw [q1] at h
            simp only [RE.bind_ok] at h
            intro u F1 H1 fp1 p s1 t1 tr1
            cases q2 : e1[k]? with
            | none => rw [q2] at h; exact h.elim
            | some o1 =>
              cases o1 with
              | none => rw [q2] at h; exact h.elim
              | some d1 =>
                cases d1 with
                | lst o xs =>
                  cases o with
                  | false => rw [q2] at h; exact h.elim
                  | true =>
                    rw [q2] at h
                    simp only at h
                    split at h
                    · rename_i hl
                      obtain ⟨v1, hv1, r1⟩ := s1.rep k _ q2
                      rw [hv] at hv1
                      cases hv1
                      obtain ⟨a1, vs, fs, ea, ep, ha, rs⟩ := r1.lo_inv
                      cases ea
                      have nd := s1.nd k
                      rw [ep] at nd
                      obtain ⟨n1, n2⟩ := List.nodup_cons.mp nd
                      have own_fs : ∀ c, c ∈ fs → own fp1 c := fun c z => ⟨k, by rw [ep]; exact List.mem_cons_of_mem _ z⟩
                      have own_a : own fp1 a0 := ⟨k, by rw [ep]; exact List.mem_cons_self ..⟩
                      have hH : ∀ b o, b ∉ fp1 k → H1 b = some o → upd H1 a0 (.lst (vs ++ [u])) b = some o := fun b o z w => by
                        rw [upd_ne]
                        · exact w
                        · intro z2; subst z2; rw [ep] at z; exact z (List.mem_cons_self ..)
                      have na : ∀ c, c ∈ fs ++ p → c ≠ a0 := fun c z w => by
                        subst w
                        rcases List.mem_append.mp z with z | z
                        · exact n1 z
                        · exact t1.dj c z own_a
                      have sub : ∀ c, c ∈ (a0 :: (fs ++ p)) → c ∈ fp1 k ∨ c ∈ p := fun c z => by
                        rcases List.mem_cons.mp z with z | z
                        · rw [z, ep]; exact .inl (List.mem_cons_self ..)
                        · exact (List.mem_append.mp z).imp (fun z => by rw [ep]; exact List.mem_cons_of_mem _ z) id
                      refine ⟨a0, vs, u, rfl, rfl, ha, by rw [rs.length]; exact LIM_lineS (Nat.le_of_lt hl), ?_⟩
                      refine h .non F1 _ _ [] (s1.mutate q2 hv (fun c z => ⟨t1.sep c z, t1.dj c z⟩) hH (.lo upd_same ((rs.append (ROs.one t1.r)).mono (fun _ _ z => z) fun c z o w => ?_)) (List.nodup_cons.mpr ⟨fun z => na a0 z rfl, List.nodup_append.mpr ⟨n2, t1.nd, fun x hx y hy z => t1.dj y hy (own_fs y (z ▸ hx))⟩⟩) sub) (TO.z .non) (tr1.trans (Tr.mutate (O := fun _ => True) hH sub)).nil
                      rw [upd_ne (na c z)]
                      exact w
                    · exact h.elim
                | _ => rw [q2] at h; exact h.elim
          | ex c d e1 => rw [q1] at h; exact h
          | no => rw [q1] at h; exact h.elim
      | _ => rw [q] at h; exact h.elim
/-- x.pop() -/
def mPop (k : Nat) : ME := fun e => match e[k]? with
  | some (some (.lst true xs)) => match xs[xs.length - 1]? with
    | some d => if fz d then .ok d (e.set k (some (.lst true xs.dropLast))) else .no
    | none => .no
  | _ => .no
/-! ### x op= e, ints -/
def augD (f : Int → Int → Int) : EV.D → EV.D → Option EV.D
  | .int i, .int j => some (.int (f i j))
  | _, _ => none
def mAug (k : Nat) (f : Int → Int → Int) (m : ME) : MS := fun e => match e[k]? with
  | some (some (.int i)) => (m e).toS fun d e1 => match d with
    | .int j => .nx (e1.set k (some (.int (f i j))))
    | _ => .no
  | _ => .no
theorem ss_aug {k : Nat} {x : Str} {op : Operator} {f : Int → Int → Int} (hN : X.N.Nodup) (hi : X.N[k]? = some x) (hx : Loc X.env.scope x) (h : SE X g W a m) (ho : PIp X op (ipI f)) (hL : k ∉ L) (hf : X.fn x = true ∨ X.env.scope.names.lookup x = some .local) :
    SS X g W L (.AugAssign (.Name x p2) op a pos) (mAug k f m) := PS.imp (ps_aug hN hi hx h ho hf) fun D σ H ⟨F, fp, e, s, h⟩ => by
  unfold mAug at h
  cases q : e[k]? with
  | none => rw [q] at h; exact h.elim
  | some o =>
    cases o with
    | none => rw [q] at h; exact h.elim
    | some d0 =>
      cases d0 with
      | int i =>
        rw [q] at h
        simp only at h
        obtain ⟨v, hv, r⟩ := s.rep k _ q
        cases r.int_inv
        refine ⟨.int i, hv, RdE.iff.mpr ⟨F, fp, e, s, ?_⟩⟩
        cases q1 : m e with
        | ok d e1 =>
          rw [q1] at h
          rw [RE.toS_ok] at h
          intro u F1 H1 fp1 p s1 t1 tr1
          cases d with
          | int j =>
            refine ⟨i, j, rfl, t1.r.int_inv, ?_⟩
            exact h _ F1 H1 _ (s1.store (TO.z (.int _))) (fun j hj => by
              rw [List.getElem?_set_ne]
              intro z; subst z; exact hL hj) (tr1.drop fun c z => (own_store c z).elim .inl fun z => nomatch z)
          | _ => exact h.elim
        | ex c d e1 => rw [q1] at h; exact h.x
        | no => rw [q1] at h; exact h
      | _ => rw [q] at h; exact h.elim
end
end EV

/-! EvJ: loops, comprehensions. -/
namespace EV
open PySem PySem.Spec PyProof.Rows L2

/-- enough turns for every while -/
@[irreducible] def FUEL : Nat := 1000000000
theorem FUEL_eq : FUEL = 1000000000 := by unfold FUEL; rfl
def whileN (t : ME) (m : MS) : Nat → MS
  | 0, _ => .no
  | n + 1, e => match t e with
    | .ok (.bl true) e1 => match m e1 with
      | .nx e2 => whileN t m n e2
      | .ct e2 => whileN t m n e2
      | .bk e2 => .nx e2
      | .rt d e2 => .rt d e2
      | .ex c d e2 => .ex c d e2
      | .no => .no
    | .ok (.bl false) e1 => .nx e1
    | .ok _ _ => .no
    | .ex c d e1 => .ex c d e1
    | .no => .no
def mWhile (t : ME) (m : MS) : MS := whileN t m FUEL
/-- a walk over known items -/
def forL (tg : CT) (m : MS) : List D → MS
  | [], e => .nx e
  | d :: ds, e => match put tg d e with
    | some e1 => match m e1 with
      | .nx e2 => forL tg m ds e2
      | .ct e2 => forL tg m ds e2
      | .bk e2 => .nx e2
      | .rt d e2 => .rt d e2
      | .ex c d e2 => .ex c d e2
      | .no => .no
    | none => .no
section
variable {X : Cx} {N : List Str} {sc : Scope} {fr : List Str} {g : GF} {G : GI} {W : WX} {L : List Nat} {a b c : Expr} {es : List Expr} {st : Stmt} {sts : List Stmt} {pos p2 p3 p4 : Pos} {oa ob : Op} {m n t : ME} {ms ns : MS} {F H F1 H1 F' H' : Hp} {fp fp1 fp' : Nat → List Addr} {σ σ1 : L2.St} {e e' : DEnv} {D : Ends}
theorem ss_while (hp : PassesOwn (model X.prog X.w) X.A X.env X.xe) (hc : ST X g W c t) (hb : SSs X g W L sts ms) : SS X g W L (.While c sts [] pos) (mWhile t ms) := PS.imp (ps_while hp hc hb) fun D σ H ⟨F, fp, e, s, h⟩ => by
  refine ⟨fun n σ H => ∃ F fp e, SO (gOf X g) F H fp σ e ∧ SOut (gOf X g) W L D σ F H fp (whileN t ms n e), ⟨FUEL, F, fp, e, s, h⟩, ?_⟩
  rintro n σ H ⟨F, fp, e, s, h⟩
  cases n with
  | zero => exact h.elim
  | succ n =>
    refine ⟨F, fp, e, s, ?_⟩
    unfold whileN at h
    cases q : t e with
    | ok d e1 =>
      rw [q] at h
      cases d with
      | bl b =>
        intro F1 H1 fp1 s1 tr1
        cases b with
        | true =>
          rw [if_pos rfl]
          refine ⟨fun σ' H' => ∃ F fp e, SO (gOf X g) F H' fp σ' e ∧ SOut (gOf X g) W L D σ' F H' fp (whileN t ms n e), fun σ' H' z => ⟨n, Nat.lt_succ_self n, z⟩, F1, fp1, e1, s1, ?_⟩
          simp only at h
          cases q1 : ms e1 with
          | nx e2 => rw [q1] at h; exact fun σ' F' H' fp' s' l' tr => ⟨F', fp', e2, s', SOut.trans h (tr1.trans tr) l'⟩
          | ct e2 => rw [q1] at h; exact fun σ' F' H' fp' s' l' tr => ⟨F', fp', e2, s', SOut.trans h (tr1.trans tr) l'⟩
          | bk e2 => rw [q1] at h; exact fun σ' F' H' fp' s' l' tr => h σ' F' H' fp' s' l' (tr1.trans tr)
          | rt d e2 => rw [q1] at h; exact fun v σ' F' H' fp' p s' l' t' tr => h v σ' F' H' fp' p s' l' t' (tr1.trans tr)
          | ex c d e2 => rw [q1] at h; exact fun dx v σ' F' H' fp' p s' l' t' tr hx => h dx v σ' F' H' fp' p s' l' t' (tr1.trans tr) hx
          | no => rw [q1] at h; exact h.elim
        | false =>
          rw [if_neg Bool.false_ne_true]
          exact h σ F1 H1 fp1 s1 (fun _ _ => rfl) tr1
      | _ => exact h.elim
    | ex c d e1 => rw [q] at h; exact h.x
    | no => rw [q] at h; exact h
/-! ### what is walked -/
/-- the items of a walk, whatever is made meanwhile; P: what stays as it was -/
structure ItOk (G : GI) (J : It) (F0 : Hp) (P : List Addr) (H0 : Hp) (ds : List EV.D) : Prop where
  go : ∀ F H k d, (∀ a o, F0 a = some o → F a = some o) → (∀ a, a ∈ P → ∀ o, H0 a = some o → H a = some o) → Sb F H → ds[k]? = some d → J.go k H ∧ ∀ x H', J.yld k H x H' →
    ∃ F', (∀ a o, F a = some o → F' a = some o) ∧ (∀ a o, H a = some o → H' a = some o) ∧ Sb F' H' ∧ (∀ a o, F' a = some o → F a = some o ∨ H a = none) ∧ RO G F' H' [] x d
  stop : ∀ F H, (∀ a o, F0 a = some o → F a = some o) → (∀ a, a ∈ P → ∀ o, H0 a = some o → H a = some o) → Sb F H → J.stop ds.length H
/-- a slot that is locked meanwhile -/
abbrev Lk := Option (Nat × EV.D)
def unlk (l : Lk) (e : DEnv) : DEnv := match l with
  | none => e
  | some (j, d) => e.set j (some d)
def lkIn (l : Lk) (Ls : List Nat) : Bool := match l with
  | none => true
  | some (j, _) => decide (j ∈ Ls)
def RE.unlk (l : Lk) : RE → RE
  | .ok d e => .ok d (EV.unlk l e)
  | .ex c d e => .ex c d (EV.unlk l e)
  | .no => .no
def RS.unlk (l : Lk) : RS → RS
  | .nx e => .nx (EV.unlk l e)
  | .bk e => .bk (EV.unlk l e)
  | .ct e => .ct (EV.unlk l e)
  | .rt d e => .rt d (EV.unlk l e)
  | .ex c d e => .ex c d (EV.unlk l e)
  | .no => .no
def LkOk (G : GI) (σ : L2.St) (F H : Hp) (fp : Nat → List Addr) (P : List Addr) (l : Lk) : Prop := match l with
  | none => P = []
  | some (j, d) => ∃ v, σ[j]? = some (some v) ∧ TO G F H fp P v d
theorem LkOk.keep {P q : List Addr} {l : Lk} {O1 : Addr → Prop} (k : LkOk G σ F H fp P l) (tr : Tr F H (own fp) F1 H1 O1) (h : ∀ c, own fp1 c → O1 c) : LkOk G σ F1 H1 fp1 P l := by
  cases l with
  | none => exact k
  | some jd =>
    obtain ⟨v, h1, t⟩ := k
    exact ⟨v, h1, t.keep tr h⟩
theorem LkOk.apart {P q : List Addr} {l : Lk} {O1 : Addr → Prop} (k : LkOk G σ F H fp P l) (tr : Tr F H (own fp) F1 H1 O1) (h : ∀ c, c ∈ q → O1 c) : ∀ c, c ∈ P → c ∈ q → False := by
  cases l with
  | none =>
    have k : P = [] := k
    subst k
    exact fun c z => nomatch z
  | some jd =>
    obtain ⟨v, h1, t⟩ := k
    exact t.apart tr h
theorem set_self' {i : Nat} {v : V} {σ : L2.St} (h : σ[i]? = some (some v)) : σ.set i (some v) = σ := by
  refine List.ext_getElem? fun j => ?_
  by_cases hj : j = i
  · subst hj
    have hl : j < σ.length := (List.getElem?_eq_some_iff.mp h).1
    rw [List.getElem?_set_self hl, h]
  · rw [List.getElem?_set_ne (Ne.symm hj)]
theorem SO.unlk {P : List Addr} {l : Lk} (k : LkOk G σ F H fp P l) (s : SO G F H fp σ1 e) (hj : ∀ j d, l = some (j, d) → σ1[j]? = σ[j]?) : ∃ fp', SO G F H fp' σ1 (EV.unlk l e) ∧ ∀ a, own fp' a → own fp a ∨ a ∈ P := by
  cases l with
  | none => exact ⟨fp, s, fun _ z => .inl z⟩
  | some jd =>
    obtain ⟨j, d⟩ := jd
    obtain ⟨v, h1, t⟩ := k
    have s2 := s.store (i := j) t
    rw [set_self' ((hj j d rfl).trans h1)] at s2
    exact ⟨_, s2, fun a z => own_store a z⟩
theorem lkIn_ok {l : Lk} {Ls : List Nat} (h : lkIn l Ls = true) {j : Nat} {d : EV.D} (e : l = some (j, d)) : j ∈ Ls := by
  subst e; exact of_decide_eq_true h
theorem TrL {P : List Addr} {O' : Addr → Prop} (t1 : Tr F H (own fp) F1 H1 (fun a => own fp1 a ∨ a ∈ P)) (t2 : Tr F1 H1 (own fp1) F' H' O') : Tr F H (own fp) F' H' (fun a => O' a ∨ a ∈ P) :=
  t1.trans (t2.weak (fun _ z => .inl z) fun c z => z.elim .inl fun z => .inr (.inr z))
theorem SOut.unlk {P : List Addr} {l : Lk} {Ls : List Nat} {r : RS} (hl : lkIn l Ls = true) (t1 : Tr F H (own fp) F1 H1 (fun a => own fp1 a ∨ a ∈ P)) (k : LkOk G σ F1 H1 fp1 P l) (h : SOut G W L D σ F H fp (r.unlk l)) : SOut G W (Ls ++ L) D σ F1 H1 fp1 r := by
  have lL : ∀ {σ' : L2.St}, (∀ i, i ∈ Ls ++ L → σ'[i]? = σ[i]?) → ∀ i, i ∈ L → σ'[i]? = σ[i]? := fun l' i z => l' i (List.mem_append_right _ z)
  have lj : ∀ {σ' : L2.St}, (∀ i, i ∈ Ls ++ L → σ'[i]? = σ[i]?) → ∀ j d, l = some (j, d) → σ'[j]? = σ[j]? := fun l' j d z => l' j (List.mem_append_left _ (lkIn_ok hl z))
  cases r with
  | nx e =>
    exact fun σ' F' H' fp' s' l' tr => by
      obtain ⟨fp2, s2, o2⟩ := SO.unlk (k.keep (q := []) tr fun _ z => z) s' (lj l')
      exact h σ' F' H' fp2 s2 (lL l') ((TrL t1 tr).drop o2)
  | bk e =>
    exact fun σ' F' H' fp' s' l' tr => by
      obtain ⟨fp2, s2, o2⟩ := SO.unlk (k.keep (q := []) tr fun _ z => z) s' (lj l')
      exact h σ' F' H' fp2 s2 (lL l') ((TrL t1 tr).drop o2)
  | ct e =>
    exact fun σ' F' H' fp' s' l' tr => by
      obtain ⟨fp2, s2, o2⟩ := SO.unlk (k.keep (q := []) tr fun _ z => z) s' (lj l')
      exact h σ' F' H' fp2 s2 (lL l') ((TrL t1 tr).drop o2)
  | rt d e =>
    exact fun v σ' F' H' fp' p s' l' t' tr => by
      obtain ⟨fp2, s2, o2⟩ := SO.unlk (k.keep (q := []) tr fun _ z => .inl z) s' (lj l')
      refine h v σ' F' H' fp2 p s2 (lL l') ⟨t'.r, t'.nd, t'.sep, fun a z w => ?_⟩ ((TrL t1 tr).drop fun c z => ?_)
      · exact (o2 a w).elim (t'.dj a z) fun w => k.apart tr (q := p) (fun c z => .inr z) a w z
      · exact z.elim (fun z => (o2 c z).imp .inl id) fun z => .inl (.inr z)
  | ex c d e =>
    exact fun dx v σ' F' H' fp' p s' l' t' tr hx => by
      obtain ⟨fp2, s2, o2⟩ := SO.unlk (k.keep (q := []) tr fun _ z => .inl z) s' (lj l')
      refine h dx v σ' F' H' fp2 p s2 (lL l') ⟨t'.r, t'.nd, t'.sep, fun a z w => ?_⟩ ((TrL t1 tr).drop fun c z => ?_) hx
      · exact (o2 a w).elim (t'.dj a z) fun w => k.apart tr (q := p) (fun c z => .inr z) a w z
      · exact z.elim (fun z => (o2 c z).imp .inl id) fun z => .inl (.inr z)
  | no => exact h
theorem EOut.unlk {P : List Addr} {l : Lk} {Q : VK} {r : RE} (t1 : Tr F H (own fp) F1 H1 (fun a => own fp1 a ∨ a ∈ P)) (k : LkOk G σ F1 H1 fp1 P l) (h : EOut G W σ F H fp Q (r.unlk l)) : EOut G W σ F1 H1 fp1 Q r := by
  cases r with
  | ok d e =>
    exact fun v F' H' fp' p s' t' tr => by
      obtain ⟨fp2, s2, o2⟩ := SO.unlk (k.keep (q := []) tr fun _ z => .inl z) s' (fun _ _ _ => rfl)
      refine h v F' H' fp2 p s2 ⟨t'.r, t'.nd, t'.sep, fun a z w => ?_⟩ ((TrL t1 tr).drop fun c z => ?_)
      · exact (o2 a w).elim (t'.dj a z) fun w => k.apart tr (q := p) (fun c z => .inr z) a w z
      · exact z.elim (fun z => (o2 c z).imp .inl id) fun z => .inl (.inr z)
  | ex c d e =>
    exact fun dx v F' H' fp' p s' t' tr hx => by
      obtain ⟨fp2, s2, o2⟩ := SO.unlk (k.keep (q := []) tr fun _ z => .inl z) s' (fun _ _ _ => rfl)
      refine h dx v F' H' fp2 p s2 ⟨t'.r, t'.nd, t'.sep, fun a z w => ?_⟩ ((TrL t1 tr).drop fun c z => ?_) hx
      · exact (o2 a w).elim (t'.dj a z) fun w => k.apart tr (q := p) (fun c z => .inr z) a w z
      · exact z.elim (fun z => (o2 c z).imp .inl id) fun z => .inl (.inr z)
  | no => exact h
inductive RI where
  | ok (ds : List EV.D) (l : Lk) (e : DEnv) | ex (c : Nat) (d : EV.D) (e : DEnv) | no
abbrev MI := DEnv → RI
def IOut (G : GI) (W : WX) (σ : L2.St) (F H : Hp) (fp : Nat → List Addr) (R : It → Hp → Prop) : RI → Prop
  | .ok ds l e' => ∀ J F' H' fp' P, SO G F' H' fp' σ e' → LkOk G σ F' H' fp' P l → Tr F H (own fp) F' H' (fun a => own fp' a ∨ a ∈ P) → ItOk G J F' P H' ds → R J H'
  | .ex c d e' => XOut G W σ F H fp c d e'
  | .no => False
def RdI (G : GI) (W : WX) (m : MI) : TI := fun σ H R => ∃ F fp e, SO G F H fp σ e ∧ IOut G W σ F H fp R (m e)
abbrev SI (X : Cx) (g : GF) (W : WX) (tg it : Expr) (m : MI) : Prop := PI X tg it (RdI (gOf X g) W m)
theorem PI.imp {tg it : Expr} {t u : TI} (h : PI X tg it t) (i : ∀ σ H Q, u σ H Q → t σ H Q) : PI X tg it u := ⟨fun pins s σ H Q I q => h.run pins s σ H Q I (i σ H Q q)⟩
def itemsD : EV.D → Option (List EV.D)
  | .tup ds => some ds
  | .lst _ ds => some ds
  | .scr ns => some (ns.map .int)
  | _ => none
/-- a list, a tuple, all of it shared -/
def mIt (m : ME) : MI := fun e => match m e with
  | .ok d e1 => match itemsD (frz d) with
    | some ds => .ok ds none e1
    | none => .no
  | .ex c d e1 => .ex c d e1
  | .no => .no
/-- what a name holds, the name not to be used meanwhile -/
def mItV (j : Nat) : MI := fun e => match e[j]? with
  | some (some (.lst true ds)) => if fzs ds = true then .ok ds (some (j, .lst true ds)) (e.set j none) else .no
  | some (some d) => match itemsD (frz d) with
    | some ds => if fz d = true then .ok ds none e else .no
    | none => .no
  | _ => .no
theorem itok_list {K : PySem.W.Frag} (hK : G.K = K) {A : Addr} {P : List Addr} {H0 : Hp} {vs : List V} {ds : List EV.D} (h : ∀ F' H', (∀ a o, F a = some o → F' a = some o) → (∀ a, a ∈ P → ∀ o, H0 a = some o → H' a = some o) → Sb F' H' → SqL K H' A vs) (r : ROs G F H [] vs ds) : ItOk G (Itl K A) F P H0 ds where
  go := fun F' H' k d h1 hP h2 h3 => by
    obtain ⟨u, hu, ru⟩ := r.get h3
    refine ⟨⟨vs, u, h F' H' h1 hP h2, hu⟩, fun x H2 y => ?_⟩
    obtain ⟨rfl, y⟩ := y
    have e := y vs (h F' H2 h1 hP h2)
    rw [hu] at e
    cases e
    exact ⟨F', fun _ _ z => z, fun _ _ z => z, h2, fun _ _ z => .inl z, ru.monoZ h1⟩
  stop := fun F' H' h1 hP h2 => ⟨vs, h F' H' h1 hP h2, by rw [r.length]; exact Nat.le_refl _⟩
theorem itok_tup {K : PySem.W.Frag} {A : Addr} {vs : List V} {P : List Addr} {H0 : Hp} {ds : List EV.D} (h : F A = some (.tup vs)) (r : ROs G F H [] vs ds) : ItOk G (Itt K A) F P H0 ds where
  go := fun F' H' k d h1 hP h2 h3 => by
    obtain ⟨u, hu, ru⟩ := r.get h3
    have q : SqT K H' A vs := SqT.of (h2 _ _ (h1 _ _ h))
    refine ⟨⟨vs, u, q, hu⟩, fun x H2 y => ?_⟩
    obtain ⟨rfl, y⟩ := y
    have e := y vs q
    rw [hu] at e
    cases e
    exact ⟨F', fun _ _ z => z, fun _ _ z => z, h2, fun _ _ z => .inl z, ru.monoZ h1⟩
  stop := fun F' H' h1 hP h2 => ⟨vs, SqT.of (h2 _ _ (h1 _ _ h)), by rw [r.length]; exact Nat.le_refl _⟩
/-- a list or a tuple walked -/
theorem pi_seq {tg l : Expr} {tl : TE} (hl : PE X l tl) : PI X tg l (fun σ H R => tl σ H fun x H1 => ∃ A, x = .ref A ∧ (((∃ xs, SqL X.K H1 A xs) ∧ R (Itl X.K A) H1) ∨ ((∃ xs, SqT X.K H1 A xs) ∧ R (Itt X.K A) H1))) := by
  refine ⟨fun pins s σ H R I h => ?_⟩
  refine thn (hl.run pins s σ H _ I h) fun v s1 ⟨x, H1, I1, r1, q1⟩ => ?_
  obtain ⟨A, e, q1⟩ := q1
  subst e
  cases r1
  rcases q1 with ⟨⟨xs, hq⟩, q⟩ | ⟨⟨xs, hq⟩, q⟩
  · obtain ⟨its, rv, p, hz⟩ := I1.list hq
    refine wpAny_pyIter_list p.isList ?_
    refine ⟨s1.heap.objs.size, [s1.heap.objs.size], _, _, H1, rfl, I1.kept (t' := s1.toks) fun b o e => Heap.get?_push_of_some _ e, turn_list A _, ⟨_, Heap.get?_push_size _ rfl, rfl, rfl⟩, fun b hb => ?_, q⟩
    have e : b = s1.heap.objs.size := by simpa using hb
    subst e
    exact I1.fpOk (Nat.le_refl _) (I1.hok.fresh (Nat.le_refl _))
  · obtain ⟨its, rv, p, hz⟩ := I1.tuple hq
    refine wpAny_pyIter_tuple (show s1.heap.IsTuple A its.toArray from p) ?_
    refine ⟨s1.heap.objs.size, [s1.heap.objs.size], _, _, H1, rfl, I1.kept (t' := s1.toks) fun b o e => Heap.get?_push_of_some _ e, turn_tuple A _, ⟨_, Heap.get?_push_size _ rfl, rfl, rfl⟩, fun b hb => ?_, q⟩
    have e : b = s1.heap.objs.size := by simpa using hb
    subst e
    exact I1.fpOk (Nat.le_refl _) (I1.hok.fresh (Nat.le_refl _))
theorem si_seq {tg l : Expr} (hl : SE X g W l m) : SI X g W tg l (mIt m) := PI.imp (pi_seq hl.z) fun σ H R ⟨F, fp, e, s, h⟩ => by
  refine ⟨F, fp, e, s, ?_⟩
  unfold mIt at h
  cases q : m e with
  | ok d e1 =>
    rw [q] at h
    intro v F1 H1 fp1 s1 r tr
    simp only at h
    generalize frz d = dz at h r
    cases dz with
    | tup ds =>
      obtain ⟨A, vs, rfl, ha, ra⟩ := r.tup_inv
      exact ⟨A, rfl, .inr ⟨⟨vs, SqT.of (s1.sub _ _ ha)⟩, h _ F1 H1 fp1 [] s1 rfl tr.nil (itok_tup ha ra)⟩⟩
    | lst o ds =>
      obtain ⟨_, A, vs, rfl, ha, ra⟩ := r.lst_inv
      exact ⟨A, rfl, .inl ⟨⟨vs, SqL.of (s1.sub _ _ ha)⟩, h _ F1 H1 fp1 [] s1 rfl tr.nil (itok_list rfl (fun F' H' h1 _ h2 => SqL.of (h2 _ _ (h1 _ _ ha))) ra)⟩⟩
    | scr ns =>
      obtain ⟨A, rfl, ha⟩ := r.scr_inv
      exact ⟨A, rfl, .inl ⟨⟨_, SqL.le ha s1.sub⟩, h _ F1 H1 fp1 [] s1 rfl tr.nil (itok_list (H := H1) rfl (fun F' H' h1 _ h2 => SqL.le ha fun c o z => h2 c o (h1 c o z)) (ints_RO ns))⟩⟩
    | _ => exact h.elim
  | ex c d e1 => rw [q] at h; exact h
  | no => rw [q] at h; exact h
/-- range(n), range(a, b) -/
def rangeD (lo hi : Int) : List EV.D := (List.range (hi - lo).toNat).map fun k => .int (lo + (k : Nat))
theorem itok_range (lo hi : Int) {P : List Addr} {H0 : Hp} : ItOk G (Itr lo (hi - lo).toNat) F P H0 (rangeD lo hi) where
  go := fun F' H' k d h1 hP h2 h3 => by
    unfold rangeD at h3
    rw [List.getElem?_map] at h3
    by_cases hk : k < (hi - lo).toNat
    · rw [List.getElem?_range hk] at h3
      injection h3 with h3; subst h3
      refine ⟨hk, fun x H2 y => ?_⟩
      obtain ⟨rfl, rfl⟩ := y
      exact ⟨F', fun _ _ z => z, fun _ _ z => z, h2, fun _ _ z => .inl z, .int _⟩
    · rw [List.getElem?_eq_none (by simpa using hk)] at h3
      cases h3
  stop := fun F' H' h1 hP h2 => by
    unfold rangeD
    rw [List.length_map, List.length_range]
    exact Nat.le_refl _
def rngOk (i : Int) : Bool := Nat.ble i.natAbs 4611686018427387903
theorem rngOk_iff {i : Int} (h : rngOk i = true) : -(2 ^ 62) ≤ i ∧ i < 2 ^ 62 := by
  have h2 := Nat.le_of_ble_eq_true h
  omega
def mRg1 (m : ME) : MI := fun e => match m e with
  | .ok (.int j) e1 => if rngOk j = true then .ok (rangeD 0 j) none e1 else .no
  | .ok _ _ => .no
  | .ex c d e1 => .ex c d e1
  | .no => .no
def mRg2 (m n : ME) : MI := fun e => match m e with
  | .ok (.int i) e1 => match n e1 with
    | .ok (.int j) e2 => if (rngOk i && rngOk j) = true then .ok (rangeD i j) none e2 else .no
    | .ok _ _ => .no
    | .ex c d e2 => .ex c d e2
    | .no => .no
  | .ok _ _ => .no
  | .ex c d e1 => .ex c d e1
  | .no => .no
theorem si_rg1 {tg : Expr} (C : Cn X N sc fr) (h1 : ("range" : Str) ∈ fr) (h2 : glB sc "range" = true) (ha : SE X g W a m) (hs : starEach [a] X.env = [(false, eval a X.env)]) : SI X g W tg (.Call (.Name "range" p2) [a] [] pos) (mRg1 m) :=
  PI.imp (pi_range1 (gl_ok C h2) (C.hfr _ h1) (pa_cons ha pa_nil hs) hs) fun σ H R ⟨F, fp, e, s, h⟩ => by
  refine RdE.iff.mpr ⟨F, fp, e, s, ?_⟩
  unfold mRg1 at h
  cases q : m e with
  | ok d e1 =>
    rw [q] at h
    intro v F1 H1 fp1 p s1 t1 tr
    cases d with
    | int j =>
      simp only at h
      split at h
      · rename_i hj
        obtain ⟨b1, b2⟩ := rngOk_iff hj
        refine ⟨j, by rw [t1.r.int_inv], b1, b2, ?_⟩
        have z := itok_range (G := gOf X g) (F := F1) (P := []) (H0 := H1) 0 j
        rw [Int.sub_zero] at z
        exact h _ F1 H1 fp1 [] s1 rfl (tr.drop fun c z => .inl z).nil z
      · exact h.elim
    | _ => exact h.elim
  | ex c d e1 => rw [q] at h; exact h
  | no => rw [q] at h; exact h
theorem si_rg2 {tg : Expr} (C : Cn X N sc fr) (h1 : ("range" : Str) ∈ fr) (h2 : glB sc "range" = true) (ha : SE X g W a m) (hb : SE X g W b n) (hs : starEach [a, b] X.env = [(false, eval a X.env), (false, eval b X.env)]) (hs2 : starEach [b] X.env = [(false, eval b X.env)]) :
    SI X g W tg (.Call (.Name "range" p2) [a, b] [] pos) (mRg2 m n) :=
  PI.imp (pi_range2 (gl_ok C h2) (C.hfr _ h1) (pa_cons ha (pa_cons hb pa_nil hs2) (by rw [hs, hs2])) hs hs2) fun σ H R ⟨F, fp, e, s, h⟩ => by
  refine RdE.iff.mpr ⟨F, fp, e, s, ?_⟩
  unfold mRg2 at h
  cases q : m e with
  | ok d e1 =>
    rw [q] at h
    intro v F1 H1 fp1 p s1 t1 tr1
    cases d with
    | int i =>
      simp only at h
      refine RdE.iff.mpr ⟨F1, fp1, e1, s1, ?_⟩
      cases q1 : n e1 with
      | ok d2 e2 =>
        rw [q1] at h
        intro v2 F2 H2 fp2 p2 s2 t2 tr2
        cases d2 with
        | int j =>
          simp only at h
          split at h
          · rename_i hj
            rw [Bool.and_eq_true] at hj
            obtain ⟨b1, b2⟩ := rngOk_iff hj.1
            obtain ⟨b3, b4⟩ := rngOk_iff hj.2
            refine ⟨i, j, by rw [t1.r.int_inv, t2.r.int_inv], ⟨b1, b2, b3, b4⟩, ?_⟩
            exact h _ F2 H2 fp2 [] s2 rfl ((tr1.drop fun c z => .inl z).trans (tr2.drop fun c z => .inl z)).nil (itok_range i j)
          · exact h.elim
        | _ => exact h.elim
      | ex c d2 e2 => rw [q1] at h; exact XOut.trans h (tr1.drop fun c z => .inl z)
      | no => rw [q1] at h; exact h.elim
    | _ => exact h.elim
  | ex c d e1 => rw [q] at h; exact h
  | no => rw [q] at h; exact h
/-- for target in iter -/
def mFor (Ls : List Nat) (tg : CT) (mi : MI) (m : MS) : MS := fun e => match mi e with
  | .ok ds l e1 => if lkIn l Ls = true then (forL tg m ds e1).unlk l else .no
  | .ex c d e1 => .ex c d e1
  | .no => .no
theorem SO.growT (s : SO G F H fp σ e) (h1 : ∀ a o, F a = some o → F' a = some o) (h2 : ∀ a o, H a = some o → H' a = some o) (h4 : ∀ a o, F' a = some o → F a = some o ∨ H a = none) : Tr F H (own fp) F' H' (own fp) :=
  ⟨h1, fun b o _ z => h2 b o z, fun b z => .inl z, fun b o z => (h4 b o z).imp id .inr⟩
theorem itok_own {K : PySem.W.Frag} (hK : G.K = K) {A : Addr} {P : List Addr} {vs : List V} {ds : List EV.D} (hA : A ∈ P) (h : H A = some (.lst vs)) (r : ROs G F H [] vs ds) : ItOk G (Itl K A) F P H ds := itok_list hK (fun F' H' h1 hP h2 => SqL.of (hP A hA _ h)) r
theorem si_v (C : Cn X N sc fr) {tg : Expr} {j : Nat} {x : Str} (hx : varB N sc j x = true) : SI X g W tg (.Name x pos) (mItV j) := PI.imp (pi_seq (pv_ok C hx)) fun σ H R ⟨F, fp, e, s, h⟩ => by
  unfold mItV at h
  cases q : e[j]? with
  | none => rw [q] at h; exact h.elim
  | some o =>
    cases o with
    | none => rw [q] at h; exact h.elim
    | some d =>
      rw [q] at h
      obtain ⟨v, hv, r⟩ := s.rep j d q
      refine ⟨v, hv, ?_⟩
      have zz : ∀ d', d' = d → fz d' = true → (∀ ds, itemsD (frz d') = some ds → IOut (gOf X g) W σ F H fp R (.ok ds none e) → ∃ A, v = .ref A ∧ (((∃ xs, SqL X.K H A xs) ∧ R (Itl X.K A) H) ∨ ((∃ xs, SqT X.K H A xs) ∧ R (Itt X.K A) H))) := by
        intro d' e1 hf ds hi h
        subst e1
        rw [r.nil_of_fz hf] at r
        have r := r.frz (F' := F) (H' := H) (fun _ _ z => z) fun a z => nomatch z
        generalize frz d' = dz at hi r
        cases dz with
        | tup ds' =>
          injection hi with hi; subst hi
          obtain ⟨A, vs, rfl, ha, ra⟩ := r.tup_inv
          exact ⟨A, rfl, .inr ⟨⟨vs, SqT.of (s.sub _ _ ha)⟩, h _ F H fp [] s rfl Tr.refl.nil (itok_tup ha ra)⟩⟩
        | lst o ds' =>
          injection hi with hi; subst hi
          obtain ⟨_, A, vs, rfl, ha, ra⟩ := r.lst_inv
          exact ⟨A, rfl, .inl ⟨⟨vs, SqL.of (s.sub _ _ ha)⟩, h _ F H fp [] s rfl Tr.refl.nil (itok_list rfl (fun F' H' h1 _ h2 => SqL.of (h2 _ _ (h1 _ _ ha))) ra)⟩⟩
        | scr ns =>
          injection hi with hi; subst hi
          obtain ⟨A, rfl, ha⟩ := r.scr_inv
          exact ⟨A, rfl, .inl ⟨⟨_, SqL.le ha s.sub⟩, h _ F H fp [] s rfl Tr.refl.nil (itok_list (H := H) rfl (fun F' H' h1 _ h2 => SqL.le ha fun c o z => h2 c o (h1 c o z)) (ints_RO ns))⟩⟩
        | _ => cases hi
      have gen : (∀ ds, d ≠ .lst true ds) → (match itemsD (frz d) with
          | some ds => if fz d = true then RI.ok ds none e else .no
          | none => .no) = mItV j e → ∃ A, v = .ref A ∧ (((∃ xs, SqL X.K H A xs) ∧ R (Itl X.K A) H) ∨ ((∃ xs, SqT X.K H A xs) ∧ R (Itt X.K A) H)) := by
        intro _ he
        have h : IOut (gOf X g) W σ F H fp R (mItV j e) := by
          unfold mItV; rw [q]; exact h
        rw [← he] at h
        cases q2 : itemsD (frz d) with
        | none => rw [q2] at h; exact h.elim
        | some ds =>
          rw [q2] at h
          simp only at h
          by_cases hf : fz d = true
          · rw [if_pos hf] at h
            exact zz d rfl hf ds q2 h
          · rw [if_neg hf] at h; exact h.elim
      cases d with
      | lst o ds =>
        cases o with
        | true =>
          simp only at h
          by_cases hf : fzs ds = true
          · rw [if_pos hf] at h
            obtain ⟨A, vs, fs, rfl, ep, ha, rs⟩ := r.lo_inv
            obtain ⟨v2, hv2, t2⟩ := s.take q
            rw [hv] at hv2
            cases hv2
            have hfs : fs = [] := rs.nil_of_fz hf
            subst hfs
            exact ⟨A, rfl, .inl ⟨⟨vs, SqL.of ha⟩, h _ F H _ (fp j) s.forget ⟨_, hv, t2⟩ (Tr.refl.drop fun c z => own_take c z) (itok_own rfl (by rw [ep]; exact List.mem_cons_self ..) ha rs)⟩⟩
          · rw [if_neg hf] at h; exact h.elim
        | false => exact gen (fun ds' z => by cases z) (by unfold mItV; rw [q])
      | _ => exact gen (fun ds' z => by cases z) (by unfold mItV; rw [q])
theorem ss_for {Ls : List Nat} {tg it : Expr} {t : CT} {r : TG} {mi : MI} (hp : PassesOwn (model X.prog X.w) X.A X.env X.xe) (hc : X.calm = true) (hi : SI X g W tg it mi) (hg : PG X tg r) (hk : GOk (gOf X g) (Ls ++ L) t r) (hb : SSs X g W (Ls ++ L) sts ms)
    (hs : ∀ x, foldedSetIterable it X.env x = pure x) : SS X g W L (.For tg it sts [] pos) (mFor Ls t mi ms) := PS.imp (ps_for hp hc hi hg hb hs) fun D σ H ⟨F, fp, e, s, h⟩ => by
  refine ⟨F, fp, e, s, ?_⟩
  unfold mFor at h
  cases q : mi e with
  | ok ds l e1 =>
    rw [q] at h
    intro J F1 H1 fp1 P s1 lk tr1 ok
    simp only at h
    by_cases hl : lkIn l Ls = true
    rotate_left
    · rw [if_neg hl] at h; exact h.elim
    rw [if_pos hl] at h
    have h := SOut.unlk hl tr1 lk h
    have hP : ∀ a, a ∈ P → ¬ own fp1 a := fun a z => by
      cases l with
      | none =>
        have lk : P = [] := lk
        subst lk; cases z
      | some jd => obtain ⟨v, _, t⟩ := lk; exact t.dj a z
    refine ⟨fun i mm σ' H' => mm + i = ds.length ∧ ∃ F fp e, SO (gOf X g) F H' fp σ' e ∧ Tr F1 H1 (own fp1) F H' (own fp) ∧ SOut (gOf X g) W (Ls ++ L) D σ' F H' fp (forL t ms (ds.drop i) e), ⟨ds.length, rfl, F1, fp1, e1, s1, Tr.refl, h⟩, ?_⟩
    rintro i mm σ2 H2 ⟨hm, F2, fp2, e2, s2, T2, h2⟩
    have pP : ∀ a, a ∈ P → ∀ o, H1 a = some o → H2 a = some o := fun a z o w => T2.fr a o (hP a z) w
    cases qd : ds[i]? with
    | none =>
      have hi : ds.length ≤ i := List.getElem?_eq_none_iff.mp qd
      have he : i = ds.length := by omega
      rw [List.drop_of_length_le hi] at h2
      exact .inl ⟨by rw [he]; exact ok.stop F2 H2 T2.ff pP s2.sub, h2 σ2 F2 H2 fp2 s2 (fun _ _ => rfl) Tr.refl⟩
    | some d =>
      obtain ⟨hi, hd⟩ := List.getElem?_eq_some_iff.mp qd
      obtain ⟨g1, g2⟩ := ok.go F2 H2 i d T2.ff pP s2.sub qd
      have ed : ds.drop i = d :: ds.drop (i + 1) := by rw [List.drop_eq_getElem_cons hi, hd]
      rw [ed] at h2
      unfold forL at h2
      refine .inr ⟨g1, fun σ' H' => ∃ F fp e, SO (gOf X g) F H' fp σ' e ∧ Tr F1 H1 (own fp1) F H' (own fp) ∧ SOut (gOf X g) W (Ls ++ L) D σ' F H' fp (forL t ms (ds.drop (i + 1)) e), fun σ' H' z => ⟨mm - 1, by omega, by omega, z⟩, fun x H3 y => ?_⟩
      obtain ⟨F3, k1, k2, k3, k4, rx⟩ := g2 x H3 y
      have s3 := s2.grow k1 k2 k3 k4
      have tr3 := s2.growT k1 k2 k4
      cases q1 : put t d e2 with
      | none => rw [q1] at h2; exact h2.elim
      | some e3 =>
        rw [q1] at h2
        simp only at h2
        refine hk s3 (TO.z rx) q1 fun σ4 fp4 s4 l4 o4 => ⟨F3, fp4, e3, s4, ?_⟩
        have tr4 : Tr F2 H2 (own fp2) F3 H3 (own fp4) := tr3.drop fun c z => (o4 c z).elim id fun z => nomatch z
        cases q2 : ms e3 with
        | nx e4 => rw [q2] at h2; exact fun σ' F' H' fp' s' l' tr => ⟨F', fp', e4, s', T2.trans (tr4.trans tr), SOut.trans h2 (tr4.trans tr) fun j z => (l' j z).trans (l4 j z)⟩
        | ct e4 => rw [q2] at h2; exact fun σ' F' H' fp' s' l' tr => ⟨F', fp', e4, s', T2.trans (tr4.trans tr), SOut.trans h2 (tr4.trans tr) fun j z => (l' j z).trans (l4 j z)⟩
        | bk e4 => rw [q2] at h2; exact fun σ' F' H' fp' s' l' tr => h2 σ' F' H' fp' s' (fun j z => (l' j z).trans (l4 j z)) (tr4.trans tr)
        | rt d e4 => rw [q2] at h2; exact fun v σ' F' H' fp' p s' l' t' tr => h2 v σ' F' H' fp' p s' (fun j z => (l' j z).trans (l4 j z)) t' (tr4.trans tr)
        | ex c d e4 => rw [q2] at h2; exact fun dx v σ' F' H' fp' p s' l' t' tr hx => h2 dx v σ' F' H' fp' p s' (fun j z => (l' j z).trans (l4 j z)) t' (tr4.trans tr) hx
        | no => rw [q2] at h2; exact h2.elim
  | ex c d e1 => rw [q] at h; exact h.x
  | no => rw [q] at h; exact h.elim
end
end EV

/-! EvK: list comprehensions. -/
namespace EV
open PySem PySem.Spec PyProof.Rows L2

def wipeE : List Nat → DEnv → DEnv
  | [], e => e
  | i :: is, e => (wipeE is e).set i none
/-- shared values of the names that a comprehension has for its own come back -/
def backE (e1 : DEnv) : List Nat → DEnv → DEnv
  | [], e => e
  | i :: is, e => match e1[i]? with
    | some (some d) => if fz d = true then (backE e1 is e).set i (some d) else backE e1 is e
    | _ => backE e1 is e
inductive RL where
  | ok (acc : List D) (e : DEnv) | no
/-- the turns of a comprehension -/
def lcL (own : List Nat) (tg : CT) (cond elt : ME) : List D → List D → DEnv → RL
  | [], acc, e => .ok acc e
  | d :: ds, acc, e => match put tg d e with
    | some e1 => match cond e1 with
      | .ok (.bl true) e2 => match elt e2 with
        | .ok y e3 => if acc.length < LIM then lcL own tg cond elt ds (acc ++ [y]) (wipeE own e3) else .no
        | _ => .no
      | .ok (.bl false) e2 => lcL own tg cond elt ds acc (wipeE own e2)
      | _ => .no
    | none => .no
def mLc (own : List Nat) (tg : CT) (mi : MI) (cond elt : ME) : ME := fun e => match mi e with
  | .ok ds l e1 => RE.unlk l (match lcL own tg cond elt ds [] (wipeE own e1) with
    | .ok acc e2 => .ok (.lst true acc) (backE e1 own e2)
    | .no => .no)
  | .ex c d e1 => .ex c d e1
  | .no => .no
def mTrue : ME := fun e => .ok (.bl true) e
abbrev W0 : WX := fun _ _ _ _ => False
section
variable {X : Cx} {N : List Str} {sc : Scope} {fr : List Str} {g : GF} {G : GI} {W : WX} {L : List Nat} {a b c : Expr} {es : List Expr} {pos p2 p3 p4 : Pos} {m n t : ME} {F H F1 H1 F' H' : Hp} {fp fp1 fp' : Nat → List Addr} {σ σ1 : L2.St} {e e' : DEnv}
theorem SO.unslot {i : Nat} (s : SO G F H fp σ e) (h : ∀ d, e[i]? ≠ some (some d)) : SO G F H fp (σ.set i none) e where
  sub := s.sub
  rep := fun j d hj => by
    obtain ⟨v, hv, r⟩ := s.rep j d hj
    refine ⟨v, ?_, r⟩
    rw [List.getElem?_set_ne]
    · exact hv
    · intro z; subst z; exact h d hj
  nd := s.nd
  dj := s.dj
  sep := s.sep
  th := s.th
  len := by rw [List.length_set]; exact s.len
theorem set_none {i : Nat} {e : DEnv} : ∀ d, (e.set i none)[i]? ≠ some (some d) := fun d h => by
  by_cases hi : i < e.length
  · rw [List.getElem?_set_self hi] at h; cases h
  · rw [List.getElem?_eq_none (by simpa using hi)] at h; cases h
theorem SO.wipe (s : SO G F H fp σ e) : ∀ own : List Nat, SO G F H (fun j => if j ∈ own then [] else fp j) (wipe σ own) (wipeE own e)
  | [] => by
    have q : (fun j => if j ∈ ([] : List Nat) then [] else fp j) = fp := funext fun j => if_neg (by simp)
    rw [q]; exact s
  | i :: is => by
    have s1 := ((SO.wipe s is).forget (i := i)).unslot set_none
    have q : (fun j => if j = i then [] else (fun j => if j ∈ is then [] else fp j) j) = fun j => if j ∈ i :: is then [] else fp j := funext fun j => by
      by_cases h1 : j = i
      · simp [h1]
      · simp [h1]
    rw [q] at s1
    exact s1
theorem own_wipe {own' : List Nat} : ∀ a, own (fun j => if j ∈ own' then [] else fp j) a → own fp a := fun a ⟨j, h⟩ => by
  dsimp only at h
  split at h
  · cases h
  · exact ⟨j, h⟩
theorem SO.putZ {i : Nat} {v : V} {d : D} (s : SO G F H fp σ e) (hv : σ[i]? = some (some v)) (r : RO G F H [] v d) : SO G F H (fun j => if j = i then [] else fp j) σ (e.set i (some d)) where
  sub := s.sub
  rep := fun j x hx => by
    by_cases hj : j = i
    · subst hj
      by_cases hl : j < e.length
      · rw [List.getElem?_set_self hl] at hx
        cases hx
        exact ⟨v, hv, by rw [if_pos rfl]; exact r⟩
      · rw [List.getElem?_eq_none (by simpa using hl)] at hx; cases hx
    · rw [List.getElem?_set_ne (Ne.symm hj)] at hx
      obtain ⟨w, h1, r1⟩ := s.rep j x hx
      exact ⟨w, h1, by rw [if_neg hj]; exact r1⟩
  nd := fun j => by
    split
    · exact List.nodup_nil
    · exact s.nd j
  dj := fun j k a h1 h2 => by
    split at h1
    · cases h1
    · split at h2
      · cases h2
      · exact s.dj j k a h1 h2
  sep := fun j a z => by
    split at z
    · cases z
    · exact s.sep j a z
  th := fun j a z => by
    split at z
    · cases z
    · exact s.th j a z
  len := by rw [List.length_set]; exact s.len
theorem SO.back {F0 H0 : Hp} {fp0 : Nat → List Addr} {e1 : DEnv} (s1 : SO G F0 H0 fp0 σ e1) (hF : ∀ a o, F0 a = some o → F a = some o) (s : SO G F H fp σ e) : ∀ own' : List Nat, ∃ fp', SO G F H fp' σ (backE e1 own' e) ∧ ∀ a, own fp' a → own fp a
  | [] => ⟨fp, s, fun _ z => z⟩
  | i :: is => by
    obtain ⟨fp', s2, o2⟩ := SO.back s1 hF s is
    unfold backE
    cases q : e1[i]? with
    | none => exact ⟨fp', s2, o2⟩
    | some o =>
      cases o with
      | none => exact ⟨fp', s2, o2⟩
      | some d =>
        simp only
        split
        · rename_i hd
          obtain ⟨v, hv, r⟩ := s1.rep i d q
          rw [r.nil_of_fz hd] at r
          exact ⟨_, s2.putZ hv (r.monoZ hF), fun a ⟨j, z⟩ => o2 a (by
            dsimp only at z
            split at z
            · cases z
            · exact ⟨j, z⟩)⟩
        · exact ⟨fp', s2, o2⟩
/-- the state of the block is a state of the def -/
theorem SO.unwipe {own' : List Nat} (s : SO G F H fp (L2.wipe σ own') e) (hl : ∀ i, i ∈ own' → ∀ d, e[i]? ≠ some (some d)) : SO G F H fp σ e where
  sub := s.sub
  rep := fun j d hj => by
    obtain ⟨v, hv, r⟩ := s.rep j d hj
    have hn : j ∉ own' := fun z => hl j z d hj
    rw [wipe_out hn] at hv
    exact ⟨v, hv, r⟩
  nd := s.nd
  dj := s.dj
  sep := s.sep
  th := s.th
  len := by rw [← s.len, wipe_length]
theorem wipeE_no : ∀ (own' : List Nat) (e : DEnv) (i : Nat), i ∈ own' → ∀ d, (wipeE own' e)[i]? ≠ some (some d)
  | j :: is, e, i, h, d => by
    unfold wipeE
    by_cases hj : i = j
    · subst hj; exact set_none d
    · rw [List.getElem?_set_ne (Ne.symm hj)]
      exact wipeE_no is e i ((List.mem_cons.mp h).resolve_left hj) d
mutual
theorem put_len : ∀ (t : CT) (d : D) (e e' : DEnv), put t d e = some e' → e'.length = e.length
  | .v i, d, e, e', h => by
    injection h with h; subst h
    rw [List.length_set]
  | .t ts, d, e, e', h => by
    cases d with
    | tup ds => exact puts_len ts ds e e' h
    | _ => cases h
theorem puts_len : ∀ (ts : List CT) (ds : List D) (e e' : DEnv), puts ts ds e = some e' → e'.length = e.length
  | [], [], e, e', h => by injection h with h; rw [h]
  | [], _ :: _, e, e', h => by cases h
  | _ :: _, [], e, e', h => by cases h
  | t :: ts, d :: ds, e, e', h => by
    have h : ((put t d e).bind fun e1 => puts ts ds e1) = some e' := h
    cases q : put t d e with
    | none => rw [q] at h; cases h
    | some e1 =>
      rw [q] at h
      exact (puts_len ts ds e1 e' h).trans (put_len t d e e1 q)
end
theorem wipe_eq {own' : List Nat} {σ2 : L2.St} (hl : σ2.length = σ.length) (h : ∀ j, j < σ.length → j ∉ own' → σ2[j]? = (L2.wipe σ own')[j]?) : L2.wipe σ2 own' = L2.wipe σ own' := by
  refine List.ext_getElem? fun j => ?_
  by_cases hj : j ∈ own'
  · have none_at : ∀ (s : L2.St) (vs : List Nat), j ∈ vs → j < s.length → (L2.wipe s vs)[j]? = some none := by
      intro s vs
      induction vs with
      | nil => intro h; cases h
      | cons v vs ih =>
        intro hv hjl
        unfold L2.wipe
        by_cases e : j = v
        · subst e
          rw [List.getElem?_set_self (by rw [wipe_length]; exact hjl)]
        · rw [List.getElem?_set_ne (Ne.symm e)]
          exact ih ((List.mem_cons.mp hv).resolve_left e) hjl
    by_cases hjl : j < σ.length
    · rw [none_at σ2 own' hj (by rw [hl]; exact hjl), none_at σ own' hj hjl]
    · rw [List.getElem?_eq_none (by rw [wipe_length]; omega), List.getElem?_eq_none (by rw [wipe_length]; omega)]
  · rw [wipe_out hj]
    by_cases hjl : j < σ.length
    · exact h j hjl hj
    · rw [List.getElem?_eq_none (by omega), List.getElem?_eq_none (by rw [wipe_length]; omega)]
/-- what the rest of a comprehension asks -/
def COut (G : GI) (σ : L2.St) (F H : Hp) (fp : Nat → List Addr) (p : List Addr) (own' : List Nat) (D : Addr) (Q : VK) : RL → Prop
  | .ok acc e' => ∀ F' H' fp' p', SO G F' H' fp' σ e' → (∀ i, i ∈ own' → ∀ d, e'[i]? ≠ some (some d)) → TO G F' H' fp' p' (.ref D) (.lst true acc) → Tr F H (fun a => own fp a ∨ a ∈ p) F' H' (fun a => own fp' a ∨ a ∈ p') → Q (.ref D) H'
  | .no => False
theorem COut.trans {G : GI} {σ : L2.St} {F H F1 H1 : Hp} {fp fp1 : Nat → List Addr} {p p1 : List Addr} {own' : List Nat} {D : Addr} {Q : VK} {r : RL} (h : COut G σ F H fp p own' D Q r) (t : Tr F H (fun a => own fp a ∨ a ∈ p) F1 H1 (fun a => own fp1 a ∨ a ∈ p1)) : COut G σ F1 H1 fp1 p1 own' D Q r := by
  cases r with
  | ok acc e' => exact fun F' H' fp' p' s l t' tr => h F' H' fp' p' s l t' (t.trans tr)
  | no => exact h
theorem pts_true (h : PTs X [] tYes) : PTs X [] (RdT (gOf X g) W0 mTrue) := ⟨fun pins s σ H Q I ⟨F, fp, e, so, hw⟩ => h.run pins s σ H Q I (hw F H fp so Tr.refl)⟩
theorem PTs.of {ifs : List Expr} {t : TT} (h : PTs X ifs t) : PTs X ifs t := h
/-- y behind the list -/
theorem TO.snoc {Da : Addr} {acc : List D} {y : D} {v : V} {p q : List Addr} (t1 : TO G F H fp p (.ref Da) (.lst true acc)) (t2 : TO G F H fp q v y) (hpq : ∀ a, a ∈ p → a ∈ q → False) (s : SO G F H fp σ e) :
    ∃ vs, H Da = some (.lst vs) ∧ vs.length = acc.length ∧ ∃ p', SO G F (upd H Da (.lst (vs ++ [v]))) fp σ e ∧ TO G F (upd H Da (.lst (vs ++ [v]))) fp p' (.ref Da) (.lst true (acc ++ [y])) ∧ Tr F H (fun a => (own fp a ∨ a ∈ p) ∨ a ∈ q) F (upd H Da (.lst (vs ++ [v]))) (fun a => own fp a ∨ a ∈ p') := by
  obtain ⟨a0, vs, fs, ea, ep, ha, rs⟩ := t1.r.lo_inv
  cases ea
  subst ep
  obtain ⟨n1, n2⟩ := List.nodup_cons.mp t1.nd
  have na : ∀ c, c ∈ fs ++ q → c ≠ Da := fun c z w => by
    subst w
    rcases List.mem_append.mp z with z | z
    · exact n1 z
    · exact hpq c (List.mem_cons_self ..) z
  have noD : ¬ own fp Da := t1.dj Da (List.mem_cons_self ..)
  have FD : F Da = none := t1.sep Da (List.mem_cons_self ..)
  refine ⟨vs, ha, rs.length, Da :: (fs ++ q), ?_, ⟨.lo upd_same ((rs.append (ROs.one t2.r)).mono (fun _ _ z => z) fun c z o w => by rw [upd_ne (na c z)]; exact w), ?_, fun c z => ?_, fun c z => ?_⟩, ?_⟩
  · exact {
      sub := fun b o z => by
        rw [upd_ne]
        · exact s.sub b o z
        · intro w; subst w; rw [FD] at z; cases z
      rep := fun j d hj => by
        obtain ⟨w, hw, r⟩ := s.rep j d hj
        exact ⟨w, hw, r.mono (fun _ _ z => z) fun b z o u => by
          rw [upd_ne]
          · exact u
          · intro w; subst w; exact noD ⟨j, z⟩⟩
      nd := s.nd
      dj := s.dj
      sep := s.sep
      th := fun j b z => by
        obtain ⟨o, ho⟩ := s.th j b z
        refine ⟨o, ?_⟩
        rw [upd_ne]
        · exact ho
        · intro w; subst w; exact noD ⟨j, z⟩
      len := s.len }
  · exact List.nodup_cons.mpr ⟨fun z => na Da z rfl, List.nodup_append.mpr ⟨n2, t2.nd, fun x hx y hy z => hpq x (List.mem_cons_of_mem _ hx) (z ▸ hy)⟩⟩
  · rcases List.mem_cons.mp z with z | z
    · rw [z]; exact FD
    · exact (List.mem_append.mp z).elim (fun z => t1.sep c (List.mem_cons_of_mem _ z)) (t2.sep c)
  · rcases List.mem_cons.mp z with z | z
    · rw [z]; exact noD
    · exact (List.mem_append.mp z).elim (fun z => t1.dj c (List.mem_cons_of_mem _ z)) (t2.dj c)
  · exact ⟨fun _ _ z => z, fun b o n z => by
      rw [upd_ne]
      · exact z
      · intro w; subst w; exact n (.inl (.inr (List.mem_cons_self ..))), fun b z => by
      rcases z with z | z
      · exact .inl (.inl (.inl z))
      · rcases List.mem_cons.mp z with z | z
        · exact .inl (.inl (.inr (by rw [z]; exact List.mem_cons_self ..)))
        · exact (List.mem_append.mp z).elim (fun z => .inl (.inl (.inr (List.mem_cons_of_mem _ z)))) fun z => .inl (.inr z), fun _ _ z => .inl z⟩
theorem mem_disj (n : Nat) (own' : List Nat) : ∀ i, i ∈ (List.range n).filter (fun j => !decide (j ∈ own')) → i ∉ own' := fun i z => by
  have := (List.mem_filter.mp z).2
  simpa using this
theorem in_disj {n j : Nat} {own' : List Nat} (h1 : j < n) (h2 : j ∉ own') : j ∈ (List.range n).filter (fun j => !decide (j ∈ own')) := List.mem_filter.mpr ⟨List.mem_range.mpr h1, by simpa using h2⟩
/-- a step of one's own with a value held -/
theorem Tr.hold {p q : List Addr} (a : Tr F H (own fp) F1 H1 (fun c => own fp1 c ∨ c ∈ q)) : Tr F H (fun c => own fp c ∨ c ∈ p) F1 H1 (fun c => (own fp1 c ∨ c ∈ p) ∨ c ∈ q) :=
  a.weak (fun _ z => .inl z) fun c z => by
    rcases z with (z | z) | z
    · exact .inl (.inl z)
    · exact .inr (.inr z)
    · exact .inl (.inr z)
theorem Tr.hold0 {p : List Addr} (a : Tr F H (own fp) F1 H1 (own fp1)) : Tr F H (fun c => own fp c ∨ c ∈ p) F1 H1 (fun c => own fp1 c ∨ c ∈ p) :=
  a.weak (fun _ z => .inl z) fun c z => by
    rcases z with z | z
    · exact .inl z
    · exact .inr (.inr z)
/-- the block's loop -/
theorem lc_loop {t : CT} {r : TG} {mc me : ME} {own' : List Nat} (hk : ∀ L, (∀ i, i ∈ L → i ∉ own') → GOk G L t r) {σ : L2.St} {D : Addr} {Q : VK} {J : It} {F0 H0 : Hp} {P : List Addr} {O0 : Addr → Prop} {ds : List EV.D} (ok : ItOk G J F0 P H0 ds) (hP : ∀ a, a ∈ P → ¬ O0 a) {F1 H1 : Hp} {fp1 : Nat → List Addr} {p1 : List Addr} {acc1 : List EV.D} {e1 : DEnv}
    (T1 : Tr F0 H0 O0 F1 H1 (fun a => own fp1 a ∨ a ∈ p1)) (s1 : SO G F1 H1 fp1 (L2.wipe σ own') e1) (l1 : ∀ i, i ∈ own' → ∀ d, e1[i]? ≠ some (some d)) (t1 : TO G F1 H1 fp1 p1 (.ref D) (.lst true acc1)) (h1 : COut G (L2.wipe σ own') F1 H1 fp1 p1 own' D Q (lcL own' t mc me ds acc1 e1)) :
    ∃ W : Nat → Nat → Hp → Prop, (∃ m, W 0 m H1) ∧ ∀ i m H, W i m H →
      (J.stop i H ∧ Q (.ref D) H) ∨ (J.go i H ∧ ∃ Nx : Hp → Prop, (∀ H', Nx H' → ∃ m', m' < m ∧ W (i + 1) m' H') ∧ ∀ x H', J.yld i H x H' → r x (L2.wipe σ own') H' fun σ2 H2 => L2.wipe σ2 own' = L2.wipe σ own' ∧ RdT G W0 mc σ2 H2 fun b H3 =>
        if b = true then RdE G W0 me σ2 H3 fun y H4 => ∃ acc, H4 D = some (.lst acc) ∧ acc.length < sizeLine ∧ Nx (upd H4 D (.lst (acc ++ [y]))) else Nx H3) := by
    refine ⟨fun i m H' => m + i = ds.length ∧ ∃ F fp p acc e, SO G F H' fp (L2.wipe σ own') e ∧ (∀ i, i ∈ own' → ∀ d, e[i]? ≠ some (some d)) ∧ TO G F H' fp p (.ref D) (.lst true acc) ∧ Tr F0 H0 O0 F H' (fun a => own fp a ∨ a ∈ p) ∧ COut G (L2.wipe σ own') F H' fp p own' D Q (lcL own' t mc me (ds.drop i) acc e),
      ⟨ds.length, rfl, F1, _, p1, acc1, _, s1, l1, t1, T1, h1⟩, ?_⟩
    rintro i m H2 ⟨hm, F2, fp2, p2, acc, e2, s2, l2, t2, T2, h2⟩
    have pP : ∀ a, a ∈ P → ∀ o, H0 a = some o → H2 a = some o := fun a z o w => T2.fr a o (hP a z) w
    cases qd : ds[i]? with
    | none =>
      have hi : ds.length ≤ i := List.getElem?_eq_none_iff.mp qd
      have he : i = ds.length := by omega
      rw [List.drop_of_length_le hi] at h2
      exact .inl ⟨by rw [he]; exact ok.stop F2 H2 T2.ff pP s2.sub, h2 F2 H2 fp2 p2 s2 l2 t2 Tr.refl⟩
    | some d =>
      obtain ⟨hi, hd⟩ := List.getElem?_eq_some_iff.mp qd
      obtain ⟨g1, g2⟩ := ok.go F2 H2 i d T2.ff pP s2.sub qd
      have ed : ds.drop i = d :: ds.drop (i + 1) := by rw [List.drop_eq_getElem_cons hi, hd]
      rw [ed] at h2
      unfold lcL at h2
      refine .inr ⟨g1, fun H' => ∃ F fp p acc e, SO G F H' fp (L2.wipe σ own') e ∧ (∀ i, i ∈ own' → ∀ d, e[i]? ≠ some (some d)) ∧ TO G F H' fp p (.ref D) (.lst true acc) ∧ Tr F0 H0 O0 F H' (fun a => own fp a ∨ a ∈ p) ∧ COut G (L2.wipe σ own') F H' fp p own' D Q (lcL own' t mc me (ds.drop (i + 1)) acc e), fun H' z => ⟨m - 1, by omega, by omega, z⟩, fun x H3 y => ?_⟩
      obtain ⟨F3, k1, k2, k3, k4, rx⟩ := g2 x H3 y
      have s3 := s2.grow k1 k2 k3 k4
      have tr3 : Tr F2 H2 (own fp2) F3 H3 (own fp2) := s2.growT k1 k2 k4
      cases q1 : put t d e2 with
      | none => rw [q1] at h2; exact h2.elim
      | some e3 =>
        rw [q1] at h2
        simp only at h2
        have hl3 := put_len t d e2 e3 q1
        refine hk ((List.range σ.length).filter fun j => !decide (j ∈ own')) (mem_disj _ own') s3 (TO.z rx) q1 fun σ4 fp4 s4 l4 o4 => ?_
        have ew : L2.wipe σ4 own' = L2.wipe σ own' := wipe_eq (by rw [s4.len, hl3, ← s2.len, wipe_length]) fun j h1 h2 => l4 j (in_disj h1 h2)
        have tr4 : Tr F2 H2 (own fp2) F3 H3 (own fp4) := tr3.drop fun c z => (o4 c z).elim id fun z => nomatch z
        refine ⟨ew, F3, fp4, e3, s4, ?_⟩
        have t4 : TO G F3 H3 fp4 p2 (.ref D) (.lst true acc) := t2.keep tr4 fun _ z => z
        cases q2 : mc e3 with
        | ok dc e4 =>
          rw [q2] at h2
          cases dc with
          | bl b =>
            intro F5 H5 fp5 s5 tr5
            have t5 : TO G F5 H5 fp5 p2 (.ref D) (.lst true acc) := t4.keep tr5 fun _ z => z
            have tr25 := tr4.trans tr5
            cases b with
            | true =>
              rw [if_pos rfl]
              simp only at h2
              refine RdE.iff.mpr ⟨F5, fp5, e4, s5, ?_⟩
              cases q3 : me e4 with
              | ok y5 e5 =>
                rw [q3] at h2
                simp only at h2
                split at h2
                · rename_i hL
                  intro v F6 H6 fp6 p6 s6 t6 tr6
                  have t7 : TO G F6 H6 fp6 p2 (.ref D) (.lst true acc) := t5.keep tr6 fun c z => .inl z
                  obtain ⟨vs, hv1, hv2, p8, s8, t8, tr8⟩ := TO.snoc t7 t6 (t5.apart tr6 fun c z => .inr z) s6
                  refine ⟨vs, hv1, by rw [hv2]; exact LIM_lineS (Nat.le_of_lt hL), F6, _, p8, _, _, ew ▸ s8.wipe own', wipeE_no own' e5, ⟨t8.r, t8.nd, t8.sep, fun c z w => t8.dj c z (own_wipe c w)⟩, T2.trans (((tr25.trans tr6).hold.trans tr8).drop fun c z => z.imp (own_wipe c) id), ?_⟩
                  refine COut.trans h2 (((tr25.trans tr6).hold.trans tr8).drop fun c z => z.imp (own_wipe c) id)
                · exact h2.elim
              | ex c d e5 => rw [q3] at h2; exact h2.elim
              | no => rw [q3] at h2; exact h2.elim
            | false =>
              rw [if_neg Bool.false_ne_true]
              simp only at h2
              refine ⟨F5, _, p2, acc, _, ew ▸ s5.wipe own', wipeE_no own' e4, ⟨t5.r, t5.nd, t5.sep, fun c z w => t5.dj c z (own_wipe c w)⟩, T2.trans (tr25.hold0.drop fun c z => z.imp (own_wipe c) id), ?_⟩
              exact COut.trans h2 (tr25.hold0.drop fun c z => z.imp (own_wipe c) id)
          | _ => exact h2.elim
        | ex c d e4 => rw [q2] at h2; exact h2.elim
        | no => rw [q2] at h2; exact h2.elim
theorem lc_new {own' : List Nat} {σ : L2.St} {D : Addr} (s1 : SO G F1 H1 fp1 σ e) (hD : H1 D = none) : SO G F1 (upd H1 D (.lst [])) (fun j => if j ∈ own' then [] else fp1 j) (L2.wipe σ own') (wipeE own' e) ∧
    TO G F1 (upd H1 D (.lst [])) (fun j => if j ∈ own' then [] else fp1 j) [D] (.ref D) (.lst true []) := ⟨(s1.new (o := .lst []) hD).wipe own', ⟨.lo upd_same .nil, by simp, fun c z => by
      rw [List.mem_singleton.mp z]; exact s1.fnone hD, fun c z w => by
      rw [List.mem_singleton.mp z] at w; exact s1.noown hD (own_wipe _ w)⟩⟩
theorem lc_end {own' : List Nat} {σ : L2.St} {D : Addr} {Q : VK} {rl : RL} (s1 : SO G F1 H1 fp1 σ e) (hD : H1 D = none) (tr1 : Tr F H (own fp) F1 H1 (own fp1)) (h : EOut G W σ F H fp Q (match rl with
      | .ok acc e2 => RE.ok (.lst true acc) (backE e own' e2)
      | .no => .no)) : COut G (L2.wipe σ own') F1 (upd H1 D (.lst [])) (fun j => if j ∈ own' then [] else fp1 j) [D] own' D Q rl := by
  cases rl with
  | no => exact h.elim
  | ok acc e2 =>
    intro F' H' fp' p' s' l' t' tr
    obtain ⟨fp2, s3, o3⟩ := SO.back s1 tr.ff (s'.unwipe l') own'
    refine h (.ref D) F' H' fp2 p' s3 ⟨t'.r, t'.nd, t'.sep, fun c z w => t'.dj c z (o3 c w)⟩ ?_
    refine (tr1.trans ((Tr.new hD).trans (tr.weak (P := fun c => own fp1 c ∨ c = D) (P1 := fun c => own fp' c ∨ c ∈ p') (fun c z => z.imp (own_wipe c) fun z => List.mem_singleton.mp z) fun _ z => .inl z))).drop fun c z => z.imp (o3 c) id
theorem LkOk.no {l : Lk} {P : List Addr} {σ : L2.St} (lk : LkOk G σ F1 H1 fp1 P l) : ∀ a, a ∈ P → ¬ own fp1 a := fun a z => by
  cases l with
  | none =>
    have lk : P = [] := lk
    subst lk; cases z
  | some jd => obtain ⟨v, _, t⟩ := lk; exact t.dj a z
theorem LkOk.th {l : Lk} {P : List Addr} {σ : L2.St} (lk : LkOk G σ F1 H1 fp1 P l) : ∀ a, a ∈ P → ∃ o, H1 a = some o := fun a z => by
  cases l with
  | none =>
    have lk : P = [] := lk
    subst lk; cases z
  | some jd => obtain ⟨v, _, t⟩ := lk; exact t.r.there a z
/-- from the walk's start to the list's -/
theorem Tr.lcNew {own' : List Nat} {D : Addr} (hD : H1 D = none) : Tr F1 H1 (own fp1) F1 (upd H1 D (.lst [])) (fun a => own (fun j => if j ∈ own' then [] else fp1 j) a ∨ a ∈ [D]) :=
  (Tr.new hD).drop fun c z => z.imp (own_wipe c) fun z => List.mem_singleton.mp z
theorem lc_plain {t : CT} {r : TG} {mi : MI} {mc me : ME} {own' : List Nat} (hk : ∀ L, (∀ i, i ∈ L → i ∉ own') → GOk G L t r) {σ : L2.St} {H : Hp} {Q : VK} (h : RdE G W (mLc own' t mi mc me) σ H Q) :
    tLc (RdI G W mi) r (RdT G W0 mc) (RdE G W0 me) own' σ H Q := by
  obtain ⟨F, fp, e, s, h⟩ := RdE.iff.mp h
  refine ⟨F, fp, e, s, ?_⟩
  unfold mLc at h
  cases q : mi e with
  | ok ds l e1 =>
    rw [q] at h
    intro J F1 H1 fp1 P s1 lk tr1 ok D hD
    have h := EOut.unlk tr1 lk h
    obtain ⟨s2, tD⟩ := lc_new (own' := own') s1 hD
    exact lc_loop hk ok lk.no (Tr.lcNew hD) s2 (wipeE_no own' e1) tD (lc_end s1 hD Tr.refl h)
  | ex c d e1 => rw [q] at h; exact h
  | no => rw [q] at h; exact h
/-- two clauses -/
def lcL2 (own' : List Nat) (tg : CT) (mc : ME) (own1 : List Nat) (tg1 : CT) (mi1 : MI) (mc1 me : ME) : List D → List D → DEnv → RL
  | [], acc, e => .ok acc e
  | d :: ds, acc, e => match put tg d e with
    | some e1 => match mc e1 with
      | .ok (.bl true) e2 => match mi1 e2 with
        | .ok ds1 none e3 => match lcL own1 tg1 mc1 me ds1 acc (wipeE own1 e3) with
          | .ok acc1 e4 => lcL2 own' tg mc own1 tg1 mi1 mc1 me ds acc1 (wipeE own' e4)
          | .no => .no
        | _ => .no
      | .ok (.bl false) e2 => lcL2 own' tg mc own1 tg1 mi1 mc1 me ds acc (wipeE own' e2)
      | _ => .no
    | none => .no
def mLc2 (own' : List Nat) (tg : CT) (mi : MI) (mc : ME) (own1 : List Nat) (tg1 : CT) (mi1 : MI) (mc1 me : ME) : ME := fun e => match mi e with
  | .ok ds l e1 => RE.unlk l (match lcL2 own' tg mc own1 tg1 mi1 mc1 me ds [] (wipeE own' e1) with
    | .ok acc e2 => .ok (.lst true acc) (backE e1 own' e2)
    | .no => .no)
  | .ex c d e1 => .ex c d e1
  | .no => .no
theorem lc2_plain {t t1 : CT} {r r1 : TG} {mi mi1 : MI} {mc mc1 me : ME} {own' own1 : List Nat} (hsub : ∀ i, i ∈ own1 → i ∈ own') (hk : ∀ L, (∀ i, i ∈ L → i ∉ own') → GOk G L t r) (hk1 : ∀ L, (∀ i, i ∈ L → i ∉ own1) → GOk G L t1 r1) {σ : L2.St} {H : Hp} {Q : VK} (h : RdE G W (mLc2 own' t mi mc own1 t1 mi1 mc1 me) σ H Q) :
    tLc2 (RdI G W mi) r (RdT G W0 mc) (RdI G W0 mi1) r1 (RdT G W0 mc1) (RdE G W0 me) own' own1 σ H Q := by
  obtain ⟨F, fp, e, s, h⟩ := RdE.iff.mp h
  refine ⟨F, fp, e, s, ?_⟩
  unfold mLc2 at h
  cases q : mi e with
  | ok ds l e1 =>
    rw [q] at h
    intro J F1 H1 fp1 P s1 lk tr1 ok D hD
    have h := EOut.unlk tr1 lk h
    obtain ⟨s2, tD⟩ := lc_new (own' := own') s1 hD
    have c0 := lc_end (own' := own') (D := D) s1 hD Tr.refl h
    refine ⟨fun i m H' => m + i = ds.length ∧ ∃ F fp p acc e, SO G F H' fp (L2.wipe σ own') e ∧ (∀ i, i ∈ own' → ∀ d, e[i]? ≠ some (some d)) ∧ TO G F H' fp p (.ref D) (.lst true acc) ∧ Tr F1 H1 (own fp1) F H' (fun a => own fp a ∨ a ∈ p) ∧ COut G (L2.wipe σ own') F H' fp p own' D Q (lcL2 own' t mc own1 t1 mi1 mc1 me (ds.drop i) acc e),
      ⟨ds.length, rfl, F1, _, [D], [], _, s2, wipeE_no own' e1, tD, Tr.lcNew hD, c0⟩, ?_⟩
    rintro i m H2 ⟨hm, F2, fp2, p2, acc, e2, s2, l2, t2, T2, h2⟩
    have pP : ∀ a, a ∈ P → ∀ o, H1 a = some o → H2 a = some o := fun a z o w => T2.fr a o (lk.no a z) w
    cases qd : ds[i]? with
    | none =>
      have hi : ds.length ≤ i := List.getElem?_eq_none_iff.mp qd
      have he : i = ds.length := by omega
      rw [List.drop_of_length_le hi] at h2
      exact .inl ⟨by rw [he]; exact ok.stop F2 H2 T2.ff pP s2.sub, h2 F2 H2 fp2 p2 s2 l2 t2 Tr.refl⟩
    | some d =>
      obtain ⟨hi, hd⟩ := List.getElem?_eq_some_iff.mp qd
      obtain ⟨g1, g2⟩ := ok.go F2 H2 i d T2.ff pP s2.sub qd
      have ed : ds.drop i = d :: ds.drop (i + 1) := by rw [List.drop_eq_getElem_cons hi, hd]
      rw [ed] at h2
      unfold lcL2 at h2
      refine .inr ⟨g1, fun H' => ∃ F fp p acc e, SO G F H' fp (L2.wipe σ own') e ∧ (∀ i, i ∈ own' → ∀ d, e[i]? ≠ some (some d)) ∧ TO G F H' fp p (.ref D) (.lst true acc) ∧ Tr F1 H1 (own fp1) F H' (fun a => own fp a ∨ a ∈ p) ∧ COut G (L2.wipe σ own') F H' fp p own' D Q (lcL2 own' t mc own1 t1 mi1 mc1 me (ds.drop (i + 1)) acc e), fun H' z => ⟨m - 1, by omega, by omega, z⟩, fun x H3 y => ?_⟩
      obtain ⟨F3, k1, k2, k3, k4, rx⟩ := g2 x H3 y
      have s3 := s2.grow k1 k2 k3 k4
      have tr3 : Tr F2 H2 (own fp2) F3 H3 (own fp2) := s2.growT k1 k2 k4
      cases q1 : put t d e2 with
      | none => rw [q1] at h2; exact h2.elim
      | some e3 =>
        rw [q1] at h2
        simp only at h2
        have hl3 := put_len t d e2 e3 q1
        refine hk ((List.range σ.length).filter fun j => !decide (j ∈ own')) (mem_disj _ own') s3 (TO.z rx) q1 fun σ4 fp4 s4 l4 o4 => ?_
        have el : σ4.length = σ.length := by rw [s4.len, hl3, ← s2.len, wipe_length]
        have ew : L2.wipe σ4 own' = L2.wipe σ own' := wipe_eq el fun j h1 h2 => l4 j (in_disj h1 h2)
        have ew1 : L2.wipe (L2.wipe σ4 own1) own' = L2.wipe σ own' := wipe_eq (by rw [wipe_length, el]) fun j h1 h2 => by
          rw [wipe_out (fun z => h2 (hsub j z))]; exact l4 j (in_disj h1 h2)
        have tr4 : Tr F2 H2 (own fp2) F3 H3 (own fp4) := tr3.drop fun c z => (o4 c z).elim id fun z => nomatch z
        refine ⟨ew, F3, fp4, e3, s4, ?_⟩
        have t4 : TO G F3 H3 fp4 p2 (.ref D) (.lst true acc) := t2.keep tr4 fun _ z => z
        cases q2 : mc e3 with
        | ok dc e4 =>
          rw [q2] at h2
          cases dc with
          | bl b =>
            intro F5 H5 fp5 s5 tr5
            have t5 : TO G F5 H5 fp5 p2 (.ref D) (.lst true acc) := t4.keep tr5 fun _ z => z
            have tr25 := tr4.trans tr5
            cases b with
            | true =>
              rw [if_pos rfl]
              simp only at h2
              refine ⟨F5, fp5, e4, s5, ?_⟩
              cases q3 : mi1 e4 with
              | ok ds1 l1 e5 =>
                cases l1 with
                | some jd => rw [q3] at h2; exact h2.elim
                | none =>
                rw [q3] at h2
                simp only at h2
                intro J1 F6 H6 fp6 P1 s6 lk1 tr6 ok1
                have eP1 : P1 = [] := lk1
                subst eP1
                have tr6 : Tr F5 H5 (own fp5) F6 H6 (own fp6) := tr6.drop fun _ z => .inl z
                have t6 : TO G F6 H6 fp6 p2 (.ref D) (.lst true acc) := t5.keep tr6 fun _ z => z
                have tr26 := tr25.trans tr6
                refine lc_loop (Q := fun _ H' => ∃ F fp p acc e, SO G F H' fp (L2.wipe σ own') e ∧ (∀ i, i ∈ own' → ∀ d, e[i]? ≠ some (some d)) ∧ TO G F H' fp p (.ref D) (.lst true acc) ∧ Tr F1 H1 (own fp1) F H' (fun a => own fp a ∨ a ∈ p) ∧ COut G (L2.wipe σ own') F H' fp p own' D Q (lcL2 own' t mc own1 t1 mi1 mc1 me (ds.drop (i + 1)) acc e)) hk1 ok1 (fun _ z => nomatch z) (O0 := fun a => own fp6 a ∨ a ∈ p2) (Tr.refl.drop fun c z => z.imp (own_wipe c) id) (s6.wipe own1) (wipeE_no own1 e5) ⟨t6.r, t6.nd, t6.sep, fun c z w => t6.dj c z (own_wipe c w)⟩ ?_
                cases q4 : lcL own1 t1 mc1 me ds1 acc (wipeE own1 e5) with
                | no => rw [q4] at h2; exact h2.elim
                | ok acc7 e7 =>
                  rw [q4] at h2
                  simp only at h2
                  intro F7 H7 fp7 p7 s7 l7 t7 tr7
                  refine ⟨F7, _, p7, acc7, _, ew1 ▸ s7.wipe own', wipeE_no own' e7, ⟨t7.r, t7.nd, t7.sep, fun c z w => t7.dj c z (own_wipe c w)⟩, T2.trans ((tr26.hold0.trans (tr7.weak (fun c z => z.imp (own_wipe c) id) fun _ z => .inl z)).drop fun c z => z.imp (own_wipe c) id), ?_⟩
                  exact COut.trans h2 ((tr26.hold0.trans (tr7.weak (fun c z => z.imp (own_wipe c) id) fun _ z => .inl z)).drop fun c z => z.imp (own_wipe c) id)
              | ex c d e5 => rw [q3] at h2; exact h2.elim
              | no => rw [q3] at h2; exact h2.elim
            | false =>
              rw [if_neg Bool.false_ne_true]
              simp only at h2
              refine ⟨F5, _, p2, acc, _, ew ▸ s5.wipe own', wipeE_no own' e4, ⟨t5.r, t5.nd, t5.sep, fun c z w => t5.dj c z (own_wipe c w)⟩, T2.trans (tr25.hold0.drop fun c z => z.imp (own_wipe c) id), ?_⟩
              exact COut.trans h2 (tr25.hold0.drop fun c z => z.imp (own_wipe c) id)
          | _ => exact h2.elim
        | ex c d e4 => rw [q2] at h2; exact h2.elim
        | no => rw [q2] at h2; exact h2.elim
  | ex c d e1 => rw [q] at h; exact h
  | no => rw [q] at h; exact h
theorem se_lc {elt tg iter : Expr} {ifs : List Expr} {scope : Scope} {own' : List (Str × Nat)} {t : CT} {r : TG} {mi : MI} {mc me : ME} (hc : X.calm = true) (hN : X.N.Nodup) (hi : SI X g W tg iter mi) (ok : BlkOk X.N X.env.scope scope own')
    (hg : ∀ (s : Shared) (H : Hp) (C : Addr) (cl : List (Str × Addr)) (fp : List Addr), PG (X.blk s H scope (compEnvC scope cl C X.env) fp) tg r) (hk : ∀ L, (∀ i, i ∈ L → i ∉ own'.map (·.2)) → GOk (gOf X g) L t r)
    (ht : ∀ (s : Shared) (H : Hp) (C : Addr) (cl : List (Str × Addr)) (fp : List Addr), PTs (X.blk s H scope (compEnvC scope cl C X.env) fp) ifs (RdT (gOf X g) W0 mc))
    (he : ∀ (s : Shared) (H : Hp) (C : Addr) (cl : List (Str × Addr)) (fp : List Addr), SE (X.blk s H scope (compEnvC scope cl C X.env) fp) g W0 elt me) (hs : ∀ x, foldedSetIterable iter X.env x = pure x) :
    SE X g W (.ListComp elt [⟨tg, iter, ifs, 0⟩] scope pos) (mLc (own'.map (·.2)) t mi mc me) := PE.imp (pe_lc hc hN hi ok hg ht he hs) fun σ H Q h => lc_plain hk h
theorem ss_setLc {i : Nat} {y : Str} {py spos : Pos} {elt tg iter : Expr} {ifs : List Expr} {scope : Scope} {own' : List (Str × Nat)} {t : CT} {r : TG} {mi : MI} {mc me : ME} (hc : X.calm = true) (hN : X.N.Nodup) (hy : X.N[i]? = some y) (hyl : X.env.scope.names.lookup y = some .local)
    (hsw : swapsWith (.ListComp elt [⟨tg, iter, ifs, 0⟩] scope pos) (some (.Name y py)) spos.line X.env = pure true) (hL : i ∉ L) (hi : SI X g W tg iter mi) (ok : BlkOk X.N X.env.scope scope own')
    (hg : ∀ (s : Shared) (H : Hp) (C : Addr) (cl : List (Str × Addr)) (fp : List Addr), PG (X.blk s H scope (compEnvC scope cl C X.env) fp) tg r) (hk : ∀ L, (∀ i, i ∈ L → i ∉ own'.map (·.2)) → GOk (gOf X g) L t r)
    (ht : ∀ (s : Shared) (H : Hp) (C : Addr) (cl : List (Str × Addr)) (fp : List Addr), PTs (X.blk s H scope (compEnvC scope cl C X.env) fp) ifs (RdT (gOf X g) W0 mc))
    (he : ∀ (s : Shared) (H : Hp) (C : Addr) (cl : List (Str × Addr)) (fp : List Addr), SE (X.blk s H scope (compEnvC scope cl C X.env) fp) g W0 elt me) (hs : ∀ x, foldedSetIterable iter X.env x = pure x) :
    SS X g W L (.Assign [.Name y py] (.ListComp elt [⟨tg, iter, ifs, 0⟩] scope pos) spos) (mAsg (.v i) (mLc (own'.map (·.2)) t mi mc me)) :=
  PS.imp (ps_setLc hc hN hy hyl hsw hi ok hg ht he hs) fun D σ H h => lc_plain hk (RdS.asg (gok_v hL) h)
theorem se_lc2 {elt tg iter tg1 iter1 : Expr} {ifs ifs1 : List Expr} {scope : Scope} {own' : List (Str × Nat)} {own1 : List Nat} {t t1 : CT} {r r1 : TG} {mi mi1 : MI} {mc mc1 me : ME} (hc : X.calm = true) (hN : X.N.Nodup) (hi : SI X g W tg iter mi) (ok : BlkOk X.N X.env.scope scope own') (hsub : ∀ i ∈ own1, i ∈ own'.map (·.2))
    (hg : ∀ (s : Shared) (H : Hp) (C : Addr) (cl : List (Str × Addr)) (fp : List Addr), PG (X.blk s H scope (compEnvC scope cl C X.env) fp) tg r) (hk : ∀ L, (∀ i, i ∈ L → i ∉ own'.map (·.2)) → GOk (gOf X g) L t r)
    (ht : ∀ (s : Shared) (H : Hp) (C : Addr) (cl : List (Str × Addr)) (fp : List Addr), PTs (X.blk s H scope (compEnvC scope cl C X.env) fp) ifs (RdT (gOf X g) W0 mc))
    (he : ∀ (s : Shared) (H : Hp) (C : Addr) (cl : List (Str × Addr)) (fp : List Addr), SE (X.blk s H scope (compEnvC scope cl C X.env) fp) g W0 elt me) (hs : ∀ x, foldedSetIterable iter X.env x = pure x)
    (hi1 : ∀ (s : Shared) (H : Hp) (C : Addr) (cl : List (Str × Addr)) (fp : List Addr), SI (X.blk s H scope (compEnvC scope cl C X.env) fp) g W0 tg1 iter1 mi1)
    (hg1 : ∀ (s : Shared) (H : Hp) (C : Addr) (cl : List (Str × Addr)) (fp : List Addr), PG (X.blk s H scope (compEnvC scope cl C X.env) fp) tg1 r1) (hk1 : ∀ L, (∀ i, i ∈ L → i ∉ own1) → GOk (gOf X g) L t1 r1)
    (ht1 : ∀ (s : Shared) (H : Hp) (C : Addr) (cl : List (Str × Addr)) (fp : List Addr), PTs (X.blk s H scope (compEnvC scope cl C X.env) fp) ifs1 (RdT (gOf X g) W0 mc1))
    (hs1 : ∀ env x, foldedSetIterable iter1 env x = pure x) :
    SE X g W (.ListComp elt [⟨tg, iter, ifs, 0⟩, ⟨tg1, iter1, ifs1, 0⟩] scope pos) (mLc2 (own'.map (·.2)) t mi mc own1 t1 mi1 mc1 me) := PE.imp (pe_lc2 hc hN hi ok hsub hg ht hi1 hg1 ht1 he hs hs1) fun σ H Q h => lc2_plain hsub hk hk1 h
end
end EV

/-! EvL: calls of defs. -/
namespace EV
open PySem PySem.Spec PyProof.Rows L2

def lentV : List Bool → List V → List V
  | true :: m, v :: vs => v :: lentV m vs
  | false :: m, _ :: vs => lentV m vs
  | _, _ => []
/-- what a def promises: its parameters' data, what it gives back of those that are lent -/
def Prom (G : GI) (mask : List Bool) (C : List D → RC) : Sp := fun vs H Q E => vs.length = mask.length ∧ ∃ F p ds, ROs G F H p vs ds ∧ p.Nodup ∧ (∀ a, a ∈ p → F a = none) ∧ (∀ a o, F a = some o → H a = some o) ∧
  match C ds with
  | .ok d fin => ∀ v F' H' q r, RO G F' H' q v d → ROs G F' H' r (lentV mask vs) fin → (q ++ r).Nodup → (∀ a, a ∈ q ++ r → F' a = none) → (∀ a o, F' a = some o → H' a = some o) → Tr F H (· ∈ p) F' H' (· ∈ q ++ r) → Q v H'
  | .ex c d fin => ∀ dx v F' H' q r, RO G F' H' q v d → ROs G F' H' r (lentV mask vs) fin → (q ++ r).Nodup → (∀ a, a ∈ q ++ r → F' a = none) → (∀ a o, F' a = some o → H' a = some o) → Tr F H (· ∈ p) F' H' (· ∈ q ++ r) →
      H' dx = some (.xd [(G.xn c, v)]) → E (.ref (G.ca c)) (some dx) H'
  | .no => False
theorem Prom.len {G : GI} {mask : List Bool} {C : List D → RC} {ps : List Str} (h : mask.length = ps.length) : ∀ vs H Q E, Prom G mask C vs H Q E → vs.length = ps.length := fun vs H Q E z => z.1.trans h
/-- what is passed -/
def effD (e : DEnv) : List PA1 → Option (List D)
  | [] => some []
  | .t d :: r => (effD e r).map (d :: ·)
  | .l j :: r => match e[j]? with
    | some (some d) => (effD e r).map (d :: ·)
    | _ => none
def lents : List PA1 → List Nat
  | [] => []
  | .t _ :: r => lents r
  | .l j :: r => j :: lents r
/-- the slots while their content is lent -/
def minus : List PA1 → DEnv → DEnv
  | [], e => e
  | .t _ :: r, e => minus r e
  | .l j :: r, e => minus r (e.set j none)
/-- given back -/
def bk : List Bool → List PA1 → List D → DEnv → Option DEnv
  | [], [], [], e => some e
  | true :: m, .l j :: as, d :: fin, e => bk m as fin (e.set j (some d))
  | true :: m, .t _ :: as, _ :: fin, e => bk m as fin e
  | false :: m, .t _ :: as, fin, e => bk m as fin e
  | _, _, _, _ => none
/-- f(..) -/
def mCall (C : List D → RC) (mask : List Bool) (dfl : List D) (ms : List Ar) : ME := fun e => match mA ms e with
  | .ok as e1 => match effD e1 as with
    | some ds => if (lents as).Nodup ∧ (as.length + dfl.length = mask.length) then match C (ds ++ dfl) with
      | .ok d fin => match bk mask (as ++ dfl.map .t) fin (minus as e1) with
        | some e2 => .ok d e2
        | none => .no
      | .ex c d fin => match bk mask (as ++ dfl.map .t) fin (minus as e1) with
        | some e2 => .ex c d e2
        | none => .no
      | .no => .no
      else .no
    | none => .no
  | .ex c d e1 => .ex c d e1
  | .no => .no
section
variable {X : Cx} {N : List Str} {sc : Scope} {fr : List Str} {g : GF} {G : GI} {W : WX} {L : List Nat} {a b c : Expr} {es : List Expr} {pos p2 p3 p4 : Pos} {m n t : ME} {F H F1 H1 F' H' : Hp} {fp fp1 fp' : Nat → List Addr} {σ σ1 : L2.St} {e e' : DEnv}
theorem set_self {i : Nat} {v : V} {σ : L2.St} (h : σ[i]? = some (some v)) : σ.set i (some v) = σ := by
  refine List.ext_getElem? fun j => ?_
  by_cases hj : j = i
  · subst hj
    have hl : j < σ.length := (List.getElem?_eq_some_iff.mp h).1
    rw [List.getElem?_set_self hl, h]
  · rw [List.getElem?_set_ne (Ne.symm hj)]
theorem effD_set {j : Nat} {e : DEnv} : ∀ {as : List PA1}, j ∉ lents as → effD (e.set j none) as = effD e as
  | [], _ => rfl
  | .t d :: r, h => by
    show (effD _ r).map _ = (effD e r).map _
    rw [effD_set (as := r) h]
  | .l i :: r, h => by
    have h1 : j ≠ i := fun z => h (z ▸ List.mem_cons_self ..)
    have h2 : j ∉ lents r := fun z => h (List.mem_cons_of_mem _ z)
    unfold effD
    rw [List.getElem?_set_ne h1, effD_set h2]
/-- what lies elsewhere stays -/
theorem SO.frame {O' : Addr → Prop} {p : List Addr} (s : SO G F H fp σ e) (hp : ∀ a, a ∈ p → ¬ own fp a) (t : Tr F H (· ∈ p) F' H' O') (sb : ∀ a o, F' a = some o → H' a = some o) : SO G F' H' fp σ e where
  sub := sb
  rep := fun i d h => by
    obtain ⟨v, q, r⟩ := s.rep i d h
    exact ⟨v, q, r.mono t.ff fun a z o w => t.fr a o (fun u => hp a u ⟨i, z⟩) w⟩
  nd := s.nd
  dj := s.dj
  sep := fun i a z => by
    cases q : F' a with
    | none => rfl
    | some o =>
      rcases t.fz a o q with w | w | w
      · rw [s.sep i a z] at w; cases w
      · exact absurd ⟨i, z⟩ (hp a w)
      · obtain ⟨o, ho⟩ := s.th i a z
        rw [w] at ho; cases ho
  th := fun i a z => by
    obtain ⟨o, ho⟩ := s.th i a z
    exact ⟨o, t.fr a o (fun u => hp a u ⟨i, z⟩) ho⟩
  len := s.len
theorem take_args : ∀ {p : List Addr} {vs : List V} {as : List PA1} {fp : Nat → List Addr} {e : DEnv} {ds : List D}, AR G F H σ p vs as → SO G F H fp σ e → p.Nodup → (∀ a, a ∈ p → F a = none) → (∀ a, a ∈ p → ¬ own fp a) → (lents as).Nodup → effD e as = some ds →
    ∃ q fp0, ROs G F H q vs ds ∧ q.Nodup ∧ (∀ a, a ∈ q → F a = none) ∧ SO G F H fp0 σ (minus as e) ∧ (∀ a, a ∈ q → ¬ own fp0 a) ∧ (∀ a, own fp0 a → own fp a) ∧ ∀ a, a ∈ q → own fp a ∨ a ∈ p
  | _, _, _, fp, e, ds, .nil, s, _, _, _, _, h => by
    injection h with h; subst h
    exact ⟨[], fp, .nil, List.nodup_nil, fun _ z => (nomatch z), s, fun _ z => (nomatch z), fun _ z => z, fun _ z => (nomatch z)⟩
  | _, _, _, fp, e, ds, .t (p := f) (q := p) (d := d) (as := as) r rs, s, nd, sep, dj, hl, h => by
    have h : (effD e as).map (d :: ·) = some ds := h
    obtain ⟨n1, n2, n3⟩ := List.nodup_append.mp nd
    cases q2 : effD e as with
    | none => rw [q2] at h; cases h
    | some ds1 =>
      rw [q2] at h
      injection h with h; subst h
      obtain ⟨q, fp0, h1, h2, h3, h4, h5, h6, h7⟩ := take_args rs s n2 (fun a z => sep a (List.mem_append_right _ z)) (fun a z => dj a (List.mem_append_right _ z)) hl q2
      refine ⟨f ++ q, fp0, .cons r h1, List.nodup_append.mpr ⟨n1, h2, fun x hx y hy z => ?_⟩, fun a z => ?_, h4, fun a z w => ?_, h6, fun a z => ?_⟩
      · subst z
        rcases h7 x hy with w | w
        · exact dj x (List.mem_append_left _ hx) w
        · exact n3 x hx x w rfl
      · exact (List.mem_append.mp z).elim (fun z => sep a (List.mem_append_left _ z)) (h3 a)
      · exact (List.mem_append.mp z).elim (fun z => dj a (List.mem_append_left _ z) (h6 a w)) (fun z => h5 a z w)
      · exact (List.mem_append.mp z).elim (fun z => .inr (List.mem_append_left _ z)) (fun z => (h7 a z).imp id (List.mem_append_right _))
  | _, _, _, fp, e, ds, .l (q := p) (j := j) (as := as) (v := v) hv rs, s, nd, sep, dj, hl, h => by
    obtain ⟨l1, l2⟩ := List.nodup_cons.mp (show (j :: lents as).Nodup from hl)
    unfold effD at h
    cases q1 : e[j]? with
    | none => rw [q1] at h; cases h
    | some o =>
      cases o with
      | none => rw [q1] at h; cases h
      | some d =>
        rw [q1] at h
        simp only at h
        cases q2 : effD e as with
        | none => rw [q2] at h; cases h
        | some ds1 =>
          rw [q2] at h
          injection h with h; subst h
          obtain ⟨v1, hv1, t1⟩ := s.take q1
          rw [hv] at hv1; cases hv1
          obtain ⟨q, fp0, h1, h2, h3, h4, h5, h6, h7⟩ := take_args rs (s.forget (i := j)) nd sep (fun a z w => dj a z (own_take a (.inl w))) l2 ((effD_set l1).trans q2)
          refine ⟨fp j ++ q, fp0, .cons t1.r h1, List.nodup_append.mpr ⟨t1.nd, h2, fun x hx y hy z => ?_⟩, fun a z => ?_, h4, fun a z w => ?_, fun a z => own_take a (.inl (h6 a z)), fun a z => ?_⟩
          · subst z
            rcases h7 x hy with w | w
            · exact t1.dj x hx w
            · exact dj x w ⟨j, hx⟩
          · exact (List.mem_append.mp z).elim (t1.sep a) (h3 a)
          · exact (List.mem_append.mp z).elim (fun z => t1.dj a z (h6 a w)) (fun z => h5 a z w)
          · exact (List.mem_append.mp z).elim (fun z => .inl ⟨j, z⟩) (fun z => (h7 a z).imp (fun z => own_take a (.inl z)) id)
theorem give_back {Fa Ha : Hp} : ∀ {p : List Addr} {vs : List V} {as : List PA1} {mask : List Bool} {fp0 : Nat → List Addr} {e0 e2 : DEnv} {fin : List D} {r : List Addr}, AR G Fa Ha σ p vs as → SO G F H fp0 σ e0 → ROs G F H r (lentV mask vs) fin → r.Nodup → (∀ a, a ∈ r → F a = none) → (∀ a, a ∈ r → ¬ own fp0 a) →
    bk mask as fin e0 = some e2 → ∃ fp2, SO G F H fp2 σ e2 ∧ ∀ a, own fp2 a → own fp0 a ∨ a ∈ r
  | _, _, _, mask, fp0, e0, e2, fin, r, .nil, s, ro, nd, sep, dj, h => by
    cases mask with
    | nil =>
      cases fin with
      | nil => injection h with h; subst h; exact ⟨fp0, s, fun _ z => .inl z⟩
      | cons _ _ => cases h
    | cons m ms => cases m <;> cases h
  | _, _, _, mask, fp0, e0, e2, fin, r, .t (vs := vs) (v := v) (as := as) r1 rs, s, ro, nd, sep, dj, h => by
    cases mask with
    | nil => cases h
    | cons m ms =>
      cases m with
      | false => exact give_back rs s ro nd sep dj h
      | true =>
        cases fin with
        | nil => cases h
        | cons d fin =>
          obtain ⟨v1, ws, f, fs, ev, ep, q1, q2⟩ := ro.invD
          injection ev with e1 e2
          subst e1 e2 ep
          obtain ⟨n1, n2, n3⟩ := List.nodup_append.mp nd
          obtain ⟨fp2, h1, h2⟩ := give_back rs s q2 n2 (fun a z => sep a (List.mem_append_right _ z)) (fun a z => dj a (List.mem_append_right _ z)) h
          exact ⟨fp2, h1, fun a z => (h2 a z).imp id (List.mem_append_right _)⟩
  | _, _, _, mask, fp0, e0, e2, fin, r, .l (vs := vs) (v := v) (as := as) (j := j) hv rs, s, ro, nd, sep, dj, h => by
    cases mask with
    | nil => cases h
    | cons m ms =>
      cases m with
      | false => cases fin <;> cases h
      | true =>
        cases fin with
        | nil => cases h
        | cons d fin =>
          obtain ⟨v1, ws, f, fs, ev, ep, q1, q2⟩ := ro.invD
          injection ev with e1 e2
          subst e1 e2 ep
          obtain ⟨n1, n2, n3⟩ := List.nodup_append.mp nd
          have s1 := s.store (i := j) (p := f) (v := v) (d := d) ⟨q1, n1, fun a z => sep a (List.mem_append_left _ z), fun a z => dj a (List.mem_append_left _ z)⟩
          rw [set_self hv] at s1
          obtain ⟨fp2, h1, h2⟩ := give_back rs s1 q2 n2 (fun a z => sep a (List.mem_append_right _ z)) (fun a z w => by
            rcases own_store a w with w | w
            · exact dj a (List.mem_append_right _ z) w
            · exact n3 a w a z rfl) h
          refine ⟨fp2, h1, fun a z => ?_⟩
          rcases h2 a z with z | z
          · exact (own_store a z).imp id (List.mem_append_left _)
          · exact .inr (List.mem_append_right _ z)
theorem AR.app : ∀ {p : List Addr} {vs : List V} {as : List PA1} {dvs : List V} {dfl : List D}, AR G F H σ p vs as → ROs G F H [] dvs dfl → AR G F H σ p (vs ++ dvs) (as ++ dfl.map .t)
  | _, _, _, dvs, dfl, .nil, r => by
    have go : ∀ {dvs : List V} {dfl : List D}, ROs G F H [] dvs dfl → AR G F H σ [] dvs (dfl.map .t) := by
      intro dvs
      induction dvs with
      | nil => intro dfl r; cases dfl with
        | nil => exact .nil
        | cons d ds => obtain ⟨v, ws, f, fs, e1, _⟩ := r.invD; cases e1
      | cons v vs ih =>
        intro dfl r
        cases dfl with
        | nil => obtain ⟨e1, _⟩ := r.invN; cases e1
        | cons d ds =>
          obtain ⟨r1, r2⟩ := r.unconsZ
          exact AR.t (p := []) (q := []) r1 (ih r2)
    exact go r
  | _, _, _, dvs, dfl, .t r1 rs, r => .t r1 (AR.app rs r)
  | _, _, _, dvs, dfl, .l hv rs, r => .l hv (AR.app rs r)
theorem AR.length : ∀ {p : List Addr} {vs : List V} {as : List PA1}, AR G F H σ p vs as → vs.length = as.length
  | _, _, _, .nil => rfl
  | _, _, _, .t _ rs => congrArg (· + 1) (AR.length rs)
  | _, _, _, .l _ rs => congrArg (· + 1) (AR.length rs)
theorem call_plain {C : List D → RC} {mask : List Bool} {dfl : List D} {dvs : List V} {ms : List Ar} (hz : ∀ F H, ROs G F H [] dvs dfl) {Q : VK} (h : RdE G W (mCall C mask dfl ms) σ H Q) : RdA G W ms σ H (fun vs H1 => Prom G mask C (vs ++ dvs) H1 Q (WE W σ)) := by
  obtain ⟨F, fp, e, s, h⟩ := RdE.iff.mp h
  refine ⟨F, fp, e, s, ?_⟩
  unfold mCall at h
  cases q : mA ms e with
  | ex c d e1 => rw [q] at h; exact h
  | no => rw [q] at h; exact h
  | ok as e1 =>
    rw [q] at h
    simp only at h
    intro vs F1 H1 fp1 p s1 t1 tr1
    cases q2 : effD e1 as with
    | none => rw [q2] at h; exact h.elim
    | some ds =>
      rw [q2] at h
      simp only at h
      split at h
      · rename_i hh
        obtain ⟨hl, hlen⟩ := hh
        obtain ⟨q, fp0, r1, r2, r3, s0, r5, r6, r7⟩ := take_args t1.r s1 t1.nd t1.sep t1.dj hl q2
        have ra : ROs G F1 H1 q (vs ++ dvs) (ds ++ dfl) := by
          have := r1.append (hz F1 H1)
          rwa [List.append_nil] at this
        have rA := t1.r.app (hz F1 H1)
        refine ⟨by rw [List.length_append, t1.r.length, (hz F1 H1).length]; exact hlen, F1, q, ds ++ dfl, ra, r2, r3, s1.sub, ?_⟩
        have fin : ∀ {F' H' : Hp} {qv r : List Addr} {v : V} {d : D} {fin : List D} {e2 : DEnv}, RO G F' H' qv v d → ROs G F' H' r (lentV mask (vs ++ dvs)) fin → (qv ++ r).Nodup → (∀ a, a ∈ qv ++ r → F' a = none) → (∀ a o, F' a = some o → H' a = some o) → Tr F1 H1 (· ∈ q) F' H' (· ∈ qv ++ r) → bk mask (as ++ dfl.map .t) fin (minus as e1) = some e2 →
            ∃ fp2, SO G F' H' fp2 σ e2 ∧ TO G F' H' fp2 qv v d ∧ Tr F H (own fp) F' H' (fun a => own fp2 a ∨ a ∈ qv) := by
          intro F' H' qv r v d fin e2 h1 h2 h3 h4 h5 h6 h7
          have s2 := s0.frame r5 h6 h5
          have nO : ∀ a, a ∈ qv ++ r → ¬ own fp0 a := fun a z w => by
            rcases h6.ow a z with u | u
            · exact r5 a u w
            · obtain ⟨i, w⟩ := w
              obtain ⟨o, ho⟩ := s0.th i a w
              rw [u] at ho; cases ho
          obtain ⟨n1, n2, n3⟩ := List.nodup_append.mp h3
          obtain ⟨fp2, s3, o3⟩ := give_back rA s2 h2 n2 (fun a z => h4 a (List.mem_append_right _ z)) (fun a z => nO a (List.mem_append_right _ z)) h7
          refine ⟨fp2, s3, ⟨h1, n1, fun a z => h4 a (List.mem_append_left _ z), fun a z w => ?_⟩, (tr1.trans (h6.weak (P := fun a => own fp1 a ∨ a ∈ p) (P1 := fun a => own fp0 a ∨ a ∈ qv ++ r) r7 fun a z => z.elim (fun z => .inr (.inl (r6 a z))) .inl)).drop fun a z => ?_⟩
          · rcases o3 a w with w | w
            · exact nO a (List.mem_append_left _ z) w
            · exact n3 a z a w rfl
          · rcases z with z | z
            · exact (o3 a z).imp id (List.mem_append_right _)
            · exact .inr (List.mem_append_left _ z)
        cases q3 : C (ds ++ dfl) with
        | ok d fn =>
          rw [q3] at h
          simp only at h
          cases q4 : bk mask (as ++ dfl.map .t) fn (minus as e1) with
          | none => rw [q4] at h; exact h.elim
          | some e2 =>
            rw [q4] at h
            intro v F' H' qv r h1 h2 h3 h4 h5 h6
            obtain ⟨fp2, s3, t3, tr3⟩ := fin h1 h2 h3 h4 h5 h6 q4
            exact h v F' H' fp2 qv s3 t3 tr3
        | ex c d fn =>
          rw [q3] at h
          simp only at h
          cases q4 : bk mask (as ++ dfl.map .t) fn (minus as e1) with
          | none => rw [q4] at h; exact h.elim
          | some e2 =>
            rw [q4] at h
            intro dx v F' H' qv r h1 h2 h3 h4 h5 h6 hx
            obtain ⟨fp2, s3, t3, tr3⟩ := fin h1 h2 h3 h4 h5 h6 q4
            exact h dx v F' H' fp2 qv s3 t3 tr3 hx
        | no => rw [q3] at h; exact h.elim
      · exact h.elim
theorem se_call {C : List D → RC} {mask : List Bool} {dfl : List D} {dvs : List V} {ds : List Value} {ms : List Ar} {k : Nat} {f : Addr} {fd : FuncData} {ps : List Str} {x : Str} (tk : Takes X W)
    (FO : FnOk X.prog X.w X.K X.mg X.base (L2.CX X.prog X.w) k f fd ps (Prom (gOf X g) mask C)) (hr : Room k X.A) (hg : Gl X x) (hm : X.mg x = some (.ref f)) (hk : PySem.W.keepIn X.K (.ref f) = true) (hb : Binds X.K fd ps ds) (hd : Vals dvs ds)
    (hz : ∀ F H, ROs (gOf X g) F H [] dvs dfl) (ha : SA X g W (a :: es) ms) (hdb : (x == ("__debug__" : Str)) = false) (he : starEach (a :: es) X.env = (false, eval a X.env) :: starEach es X.env) (hpl : (backTo pos (starEach es X.env)).any (·.1) = false) :
    SE X g W (.Call (.Name x p2) (a :: es) [] pos) (mCall C mask dfl ms) := PE.imp (pe_callSD (E := WE W) FO hr hg hm hk hb hd (passAt tk) ha hdb he hpl) fun σ H Q h => call_plain hz h
theorem se_call0 {C : List D → RC} {mask : List Bool} {dfl : List D} {dvs : List V} {ds : List Value} {k : Nat} {f : Addr} {fd : FuncData} {ps : List Str} {x : Str} (tk : Takes X W)
    (FO : FnOk X.prog X.w X.K X.mg X.base (L2.CX X.prog X.w) k f fd ps (Prom (gOf X g) mask C)) (hr : Room k X.A) (hg : Gl X x) (hm : X.mg x = some (.ref f)) (hk : PySem.W.keepIn X.K (.ref f) = true) (hb : Binds X.K fd ps ds) (hd : Vals dvs ds)
    (hz : ∀ F H, ROs (gOf X g) F H [] dvs dfl) (hdb : (x == ("__debug__" : Str)) = false) :
    SE X g W (.Call (.Name x p2) [] [] pos) (mCall C mask dfl []) := by
  refine ⟨fun pins s σ H Q I h => ?_⟩
  refine wpAny_Call_Name_kw (ld_glob I hg hm ?_ hdb)
  refine PySem.W.callWith_K0 I.kIn hk (run_fnSD (us := []) (vs := []) (E := WE W) FO hr hb hd (passAt tk σ) I .nil ?_)
  obtain ⟨F, fp, e, s, h⟩ := call_plain (dvs := dvs) hz h
  exact h [] F H fp [] s ⟨.nil, List.nodup_nil, fun _ z => (nomatch z), fun _ z => (nomatch z)⟩ Tr.refl.nil
end
end EV

/-! EvM: what a def computes, its promise. -/
namespace EV
open PySem PySem.Spec PyProof.Rows L2

def fins : List Bool → DEnv → Option (List D)
  | true :: m, some d :: e => (fins m e).map (d :: ·)
  | true :: _, _ => none
  | false :: m, _ :: e => fins m e
  | false :: m, [] => fins m []
  | [], _ => some []
/-- the places of true -/
def lix : Nat → List Bool → List Nat
  | k, true :: m => k :: lix (k + 1) m
  | k, false :: m => lix (k + 1) m
  | _, [] => []
/-- a def as a plain function: n slots -/
def callF (n : Nat) (mask : List Bool) (m : MS) (ds : List D) : RC :=
  if ds.length = mask.length ∧ mask.length ≤ n then
    match m (ds.map some ++ List.replicate (n - mask.length) none) with
    | .nx e => match fins mask e with
      | some f => .ok .non f
      | none => .no
    | .rt d e => match fins mask e with
      | some f => .ok d f
      | none => .no
    | .ex c d e => match fins mask e with
      | some f => .ex c d f
      | none => .no
    | _ => .no
  else .no
section
variable {X : Cx} {N : List Str} {sc : Scope} {fr : List Str} {g : GF} {G : GI} {W : WX} {L : List Nat} {F H F1 H1 F' H' : Hp} {fp fp1 fp' : Nat → List Addr} {σ σ1 : L2.St} {e e' : DEnv}
theorem ROs.split : ∀ {p : List Addr} {vs : List V} {ds : List D}, ROs G F H p vs ds → ∃ ps : List (List Addr), ps.flatten = p ∧ ∀ (i : Nat) (d : D), ds[i]? = some d → ∃ (v : V) (f : List Addr), vs[i]? = some v ∧ ps[i]? = some f ∧ RO G F H f v d
  | _, _, _, .nil => ⟨[], rfl, fun i d h => by cases h⟩
  | _, _, _, .cons (f := f) r rs => by
    obtain ⟨ps, e, h⟩ := ROs.split rs
    refine ⟨f :: ps, by rw [List.flatten_cons, e], fun i d hi => ?_⟩
    cases i with
    | zero => injection hi with hi; subst hi; exact ⟨_, f, rfl, rfl, r⟩
    | succ i => exact h i d hi
theorem nth_nodup : ∀ {ps : List (List Addr)}, ps.flatten.Nodup → (∀ (i : Nat) (f : List Addr), ps[i]? = some f → f.Nodup) ∧ ∀ (i j : Nat) (f f' : List Addr) (a : Addr), ps[i]? = some f → ps[j]? = some f' → a ∈ f → a ∈ f' → i = j
  | [], _ => ⟨(fun i f h => by cases h), (fun i j f f' a h => by cases h)⟩
  | p :: ps, h => by
    rw [List.flatten_cons] at h
    obtain ⟨n1, n2, n3⟩ := List.nodup_append.mp h
    obtain ⟨h1, h2⟩ := nth_nodup n2
    have mem : ∀ j f a, ps[j]? = some f → a ∈ f → a ∈ ps.flatten := fun j f a hj ha => List.mem_flatten.mpr ⟨f, List.mem_of_getElem? hj, ha⟩
    refine ⟨fun i f hi => ?_, fun i j f f' a hi hj ha hb => ?_⟩
    · cases i with
      | zero => injection hi with hi; subst hi; exact n1
      | succ i => exact h1 i f hi
    · cases i with
      | zero =>
        cases j with
        | zero => rfl
        | succ j =>
          injection hi with hi; subst hi
          exact absurd rfl (n3 a ha a (mem j f' a hj hb))
      | succ i =>
        cases j with
        | zero =>
          injection hj with hj; subst hj
          exact absurd rfl (n3 a hb a (mem i f a hi ha))
        | succ j => rw [h2 i j f f' a hi hj ha hb]
theorem start_SO {p : List Addr} {vs : List V} {ds : List D} (n : Nat) (hn : ds.length ≤ N.length) (hs : ∀ a o, F a = some o → H a = some o) (r : ROs G F H p vs ds) (nd : p.Nodup) (sep : ∀ a, a ∈ p → F a = none) :
    ∃ fp, SO G F H fp (L2.start N vs) (ds.map some ++ List.replicate (N.length - ds.length) none) ∧ ∀ a, own fp a → a ∈ p := by
  obtain ⟨ps, ep, h⟩ := r.split
  subst ep
  obtain ⟨n1, n2⟩ := nth_nodup nd
  have gd : ∀ i a, a ∈ ps.getD i [] → ∃ f, ps[i]? = some f ∧ a ∈ f := fun i a z => by
    rw [List.getD_eq_getElem?_getD] at z
    cases q : ps[i]? with
    | none => rw [q] at z; cases z
    | some f => rw [q] at z; exact ⟨f, rfl, z⟩
  have mem : ∀ i a, a ∈ ps.getD i [] → a ∈ ps.flatten := fun i a z => by
    obtain ⟨f, hf, ha⟩ := gd i a z
    exact List.mem_flatten.mpr ⟨f, List.mem_of_getElem? hf, ha⟩
  refine ⟨fun i => ps.getD i [], ⟨hs, fun i d hi => ?_, fun i => ?_, fun i j a hi hj => ?_, fun i a z => sep a (mem i a z), fun i a z => r.there a (mem i a z), ?_⟩, fun a ⟨i, z⟩ => mem i a z⟩
  · by_cases hl : i < ds.length
    · rw [List.getElem?_append_left (by simpa using hl), List.getElem?_map] at hi
      cases q : ds[i]? with
      | none => rw [q] at hi; cases hi
      | some d' =>
        rw [q] at hi
        injection hi with hi; injection hi with hi; subst hi
        obtain ⟨v, f, h1, h2, h3⟩ := h i d' q
        refine ⟨v, ?_, ?_⟩
        · unfold L2.start
          have hv : i < vs.length := (List.getElem?_eq_some_iff.mp h1).1
          rw [List.getElem?_append_left (by simpa using hv), List.getElem?_map, h1]
          rfl
        · rw [List.getD_eq_getElem?_getD, h2]; exact h3
    · rw [List.getElem?_append_right (by simpa using hl)] at hi
      have := List.mem_of_getElem? hi
      have := List.eq_of_mem_replicate this
      cases this
  · show (ps.getD i []).Nodup
    rw [List.getD_eq_getElem?_getD]
    cases q : ps[i]? with
    | none => exact List.nodup_nil
    | some f => exact n1 i f q
  · obtain ⟨f, h1, h2⟩ := gd i a hi
    obtain ⟨f', h3, h4⟩ := gd j a hj
    exact n2 i j f f' a h1 h3 h2 h4
  · unfold L2.start
    rw [List.length_append, List.length_append, List.length_map, List.length_map, List.length_replicate, List.length_replicate, r.length]
theorem end_fin : ∀ (mask : List Bool) (k : Nat) (vs : List V) (e : DEnv) (fin : List D), vs.length = mask.length → (∀ i d, e[i]? = some (some d) → ∃ v, σ[k + i]? = some (some v) ∧ RO G F H (fp (k + i)) v d) → (∀ i, (fp i).Nodup) → (∀ i j a, a ∈ fp i → a ∈ fp j → i = j) →
    (∀ i, mask[i]? = some true → ∃ v, vs[i]? = some v ∧ σ[k + i]? = some (some v)) → fins mask e = some fin →
    ∃ r, ROs G F H r (lentV mask vs) fin ∧ r.Nodup ∧ ∀ a, a ∈ r → ∃ i, k ≤ i ∧ a ∈ fp i
  | [], k, vs, e, fin, hl, hr, hn, hd, hv, h => by
    cases vs with
    | cons _ _ => cases hl
    | nil =>
      have h : some ([] : List D) = some fin := by
        cases e <;> exact h
      injection h with h; subst h
      exact ⟨[], .nil, List.nodup_nil, fun _ z => (nomatch z)⟩
  | false :: m, k, vs, e, fin, hl, hr, hn, hd, hv, h => by
    cases vs with
    | nil => cases hl
    | cons v vs =>
      have h : fins m e.tail = some fin := by
        cases e <;> exact h
      obtain ⟨r, h1, h2, h3⟩ := end_fin m (k + 1) vs e.tail fin (by simpa using hl) (fun i d hi => by
        have := hr (i + 1) d (by cases e with
          | nil => cases hi
          | cons x e => exact hi)
        rw [show k + 1 + i = k + (i + 1) from by omega]; exact this) hn hd (fun i hi => by
        have := hv (i + 1) hi
        rw [show k + 1 + i = k + (i + 1) from by omega]; exact this) h
      exact ⟨r, h1, h2, fun a z => by obtain ⟨i, q1, q2⟩ := h3 a z; exact ⟨i, by omega, q2⟩⟩
  | true :: m, k, vs, e, fin, hl, hr, hn, hd, hv, h => by
    cases vs with
    | nil => cases hl
    | cons v vs =>
      cases e with
      | nil => cases h
      | cons x e =>
        cases x with
        | none => cases h
        | some d =>
          have h : (fins m e).map (d :: ·) = some fin := h
          cases q : fins m e with
          | none => rw [q] at h; cases h
          | some fn =>
            rw [q] at h
            injection h with h; subst h
            obtain ⟨r, h1, h2, h3⟩ := end_fin m (k + 1) vs e fn (by simpa using hl) (fun i d hi => by
              have := hr (i + 1) d hi
              rw [show k + 1 + i = k + (i + 1) from by omega]; exact this) hn hd (fun i hi => by
              have := hv (i + 1) hi
              rw [show k + 1 + i = k + (i + 1) from by omega]; exact this) q
            obtain ⟨w, hw, rw'⟩ := hr 0 d rfl
            obtain ⟨v1, hv1, hv2⟩ := hv 0 rfl
            injection hv1 with hv1; subst hv1
            rw [hw] at hv2
            cases hv2
            refine ⟨fp (k + 0) ++ r, .cons rw' h1, List.nodup_append.mpr ⟨hn _, h2, fun x hx y hy z => ?_⟩, fun a z => ?_⟩
            · subst z
              obtain ⟨i, q1, q2⟩ := h3 x hy
              have := hd _ _ x hx q2
              omega
            · rcases List.mem_append.mp z with z | z
              · exact ⟨k + 0, by omega, z⟩
              · obtain ⟨i, q1, q2⟩ := h3 a z
                exact ⟨i, by omega, q2⟩
theorem lix_mem : ∀ (mask : List Bool) (k i : Nat), mask[i]? = some true → (k + i) ∈ lix k mask
  | [], k, i, h => by cases h
  | b :: m, k, i, h => by
    cases i with
    | zero =>
      injection h with h; subst h
      exact List.mem_cons_self ..
    | succ i =>
      have := lix_mem m (k + 1) i h
      rw [show k + 1 + i = k + (i + 1) from by omega] at this
      cases b
      · exact this
      · exact List.mem_cons_of_mem _ this
/-- the body's ends are the promise's -/
theorem body_plain {mask : List Bool} {m : MS} {E : XK} {Q : VK} {vs : List V} (hm : mask.length ≤ N.length) (h : Prom G mask (callF N.length mask m) vs H Q E) :
    RdS G (fun cls d _ H => E cls d H) (lix 0 mask) m { nx := fun _ H' => Q .non H', rt := Q } (L2.start N vs) H := by
  obtain ⟨hl, F, p, ds, r, nd, sep, hs, h⟩ := h
  unfold callF at h
  by_cases hh : ds.length = mask.length ∧ mask.length ≤ N.length
  · rw [if_pos hh] at h
    obtain ⟨h1, h2⟩ := hh
    obtain ⟨fp, s, ho⟩ := start_SO (N := N) 0 (by omega) hs r nd sep
    rw [h1] at s
    refine ⟨F, fp, _, s, ?_⟩
    have st : ∀ i v, vs[i]? = some v → (L2.start N vs)[i]? = some (some v) := fun i v hv => by
      unfold L2.start
      have hv' : i < vs.length := (List.getElem?_eq_some_iff.mp hv).1
      rw [List.getElem?_append_left (by simpa using hv'), List.getElem?_map, hv]
      rfl
    have lent : ∀ {σ' : L2.St} {F' H' : Hp} {fp' : Nat → List Addr} {e' : DEnv} {fin : List D}, SO G F' H' fp' σ' e' → (∀ i, i ∈ lix 0 mask → σ'[i]? = (L2.start N vs)[i]?) → fins mask e' = some fin → ∃ r, ROs G F' H' r (lentV mask vs) fin ∧ r.Nodup ∧ ∀ a, a ∈ r → own fp' a := fun s' l' hf => by
      obtain ⟨r, q1, q2, q3⟩ := end_fin mask 0 vs _ _ hl (fun i d hi => by rw [Nat.zero_add]; exact s'.rep i d hi) s'.nd s'.dj (fun i hi => by
        have hi' : i < vs.length := by rw [hl]; exact (List.getElem?_eq_some_iff.mp hi).1
        have z := lix_mem mask 0 i hi
        rw [Nat.zero_add] at z ⊢
        exact ⟨vs[i], List.getElem?_eq_getElem hi', by rw [l' i z]; exact st i _ (List.getElem?_eq_getElem hi')⟩) hf
      exact ⟨r, q1, q2, fun a z => by obtain ⟨i, _, q⟩ := q3 a z; exact ⟨i, q⟩⟩
    have all : ∀ {σ' : L2.St} {F' H' : Hp} {fp' : Nat → List Addr} {e' : DEnv} {q r : List Addr} {v : V} {d : D}, SO G F' H' fp' σ' e' → TO G F' H' fp' q v d → r.Nodup → (∀ a, a ∈ r → own fp' a) → Tr F H (own fp) F' H' (fun a => own fp' a ∨ a ∈ q) →
        (q ++ r).Nodup ∧ (∀ a, a ∈ q ++ r → F' a = none) ∧ Tr F H (· ∈ p) F' H' (· ∈ q ++ r) := fun s' t' n' o' tr => by
      refine ⟨List.nodup_append.mpr ⟨t'.nd, n', fun x hx y hy z => t'.dj x hx (o' x (z ▸ hy))⟩, fun a z => (List.mem_append.mp z).elim (t'.sep a) fun z => by obtain ⟨i, w⟩ := o' a z; exact s'.sep i a w, ?_⟩
      exact tr.weak ho fun c z => (List.mem_append.mp z).elim (fun z => .inl (.inr z)) fun z => .inl (.inl (o' c z))
    cases q1 : m (ds.map some ++ List.replicate (N.length - mask.length) none) with
    | nx e' =>
      rw [q1] at h
      simp only at h
      intro σ' F' H' fp' s' l' tr
      cases q2 : fins mask e' with
      | none => rw [q2] at h; exact h.elim
      | some fin =>
        rw [q2] at h
        obtain ⟨r, r1, r2, r3⟩ := lent s' l' q2
        obtain ⟨a1, a2, a3⟩ := all s' (TO.z .non) r2 r3 tr.nil
        exact h .non F' H' [] r .non r1 a1 a2 s'.sub a3
    | rt d e' =>
      rw [q1] at h
      simp only at h
      intro v σ' F' H' fp' pv s' l' t' tr
      cases q2 : fins mask e' with
      | none => rw [q2] at h; exact h.elim
      | some fin =>
        rw [q2] at h
        obtain ⟨r, r1, r2, r3⟩ := lent s' l' q2
        obtain ⟨a1, a2, a3⟩ := all s' t' r2 r3 tr
        exact h v F' H' pv r t'.r r1 a1 a2 s'.sub a3
    | ex c d e' =>
      rw [q1] at h
      simp only at h
      intro dx v σ' F' H' fp' pv s' l' t' tr hx
      cases q2 : fins mask e' with
      | none => rw [q2] at h; exact h.elim
      | some fin =>
        rw [q2] at h
        obtain ⟨r, r1, r2, r3⟩ := lent s' l' q2
        obtain ⟨a1, a2, a3⟩ := all s' t' r2 r3 tr
        exact h dx v F' H' pv r t'.r r1 a1 a2 s'.sub a3 hx
    | bk e' => rw [q1] at h; exact h.elim
    | ct e' => rw [q1] at h; exact h.elim
    | no => rw [q1] at h; exact h.elim
  · rw [if_neg hh] at h; exact h.elim
end
end EV

/-! EvN: built-ins by name; contexts; the promise of a def from its body. -/
namespace EV
open PySem PySem.Spec PyProof.Rows L2
section
variable {X : Cx} {N : List Str} {sc : Scope} {fr : List Str} {g : GF} {G : GI} {W : WX} {L : List Nat} {a b c : Expr} {es : List Expr} {pos p2 p3 p4 : Pos} {oa ob : Op} {m n t : ME}
theorem se_len (C : Cn X N sc fr) (h1 : ("len" : Str) ∈ fr) (h2 : glB sc "len" = true) (ha : SOp X g W a oa) (hs : starEach [a] X.env = (false, eval a X.env) :: starEach [] X.env) : SE X g W (.Call (.Name "len" p2) [a] [] pos) (mOp1 lenD oa) :=
  se_b1 C (id := "len") (r := fun xs H Q => ∃ x n, xs = [x] ∧ LenV X.K x H n ∧ Q (.int n) H) call_len (by decide +kernel) (by decide) (by decide) (fun F H x d1 d Q s r1 h k => by
    obtain ⟨n, h1, h2⟩ := hr_len s r1 h k
    exact ⟨x, n, rfl, h1, h2⟩) h1 h2 ha hs
theorem se_abs (C : Cn X N sc fr) (h1 : ("abs" : Str) ∈ fr) (h2 : glB sc "abs" = true) (ha : SOp X g W a oa) (hs : starEach [a] X.env = (false, eval a X.env) :: starEach [] X.env) : SE X g W (.Call (.Name "abs" p2) [a] [] pos) (mOp1 absD oa) :=
  se_b1 C (id := "abs") call_abs (by decide +kernel) (by decide) (by decide) (fun F H x d1 d Q s r1 h k => hr_abs s r1 h k) h1 h2 ha hs
theorem se_int1 (C : Cn X N sc fr) (h1 : ("int" : Str) ∈ fr) (h2 : glB sc "int" = true) (ha : SOp X g W a oa) (hs : starEach [a] X.env = (false, eval a X.env) :: starEach [] X.env) : SE X g W (.Call (.Name "int" p2) [a] [] pos) (mOp1 intD oa) :=
  se_t1 C (id := "int") call_int1 (by decide +kernel) (by decide) (by decide) (fun F H x d1 d Q s r1 h k => hr_int s r1 h k) h1 h2 ha hs
theorem se_tuple (C : Cn X N sc fr) (h1 : ("tuple" : Str) ∈ fr) (h2 : glB sc "tuple" = true) (ha : SOp X g W a oa) (hs : starEach [a] X.env = (false, eval a X.env) :: starEach [] X.env) : SE X g W (.Call (.Name "tuple" p2) [a] [] pos) (mOp1 tupleD oa) :=
  se_t1 C (id := "tuple") call_tuple_of (by decide +kernel) (by decide) (by decide) (fun F H x d1 d Q s r1 h k => hr_tuple s r1 h k) h1 h2 ha hs
theorem se_list (C : Cn X N sc fr) (h1 : ("list" : Str) ∈ fr) (h2 : glB sc "list" = true) (ha : SOp X g W a oa) (hs : starEach [a] X.env = (false, eval a X.env) :: starEach [] X.env) : SE X g W (.Call (.Name "list" p2) [a] [] pos) (mOp1 listD oa) :=
  se_t1 C (id := "list") call_list_of (by decide +kernel) (by decide) (by decide) (fun F H x d1 d Q s r1 h k => hr_list s r1 h k) h1 h2 ha hs
theorem se_sum (C : Cn X N sc fr) (h1 : ("sum" : Str) ∈ fr) (h2 : glB sc "sum" = true) (ha : SOp X g W a oa) (hs : starEach [a] X.env = (false, eval a X.env) :: starEach [] X.env) : SE X g W (.Call (.Name "sum" p2) [a] [] pos) (mOp1 sumD oa) :=
  se_b1 C (id := "sum") (cr_sum C.calm) (by decide +kernel) (by decide) (by decide) (fun F H x d1 d Q s r1 h k => hr_sum s r1 h k) h1 h2 ha hs
theorem se_max1 (C : Cn X N sc fr) (h1 : ("max" : Str) ∈ fr) (h2 : glB sc "max" = true) (ha : SOp X g W a oa) (hs : starEach [a] X.env = (false, eval a X.env) :: starEach [] X.env) : SE X g W (.Call (.Name "max" p2) [a] [] pos) (mOp1 max1D oa) :=
  se_b1 C (id := "max") (cr_max C.calm) (by decide +kernel) (by decide) (by decide) (fun F H x d1 d Q s r1 h k => hr_max1 s r1 h k) h1 h2 ha hs
theorem se_min1 (C : Cn X N sc fr) (h1 : ("min" : Str) ∈ fr) (h2 : glB sc "min" = true) (ha : SOp X g W a oa) (hs : starEach [a] X.env = (false, eval a X.env) :: starEach [] X.env) : SE X g W (.Call (.Name "min" p2) [a] [] pos) (mOp1 min1D oa) :=
  se_b1 C (id := "min") (cr_min C.calm) (by decide +kernel) (by decide) (by decide) (fun F H x d1 d Q s r1 h k => hr_min1 s r1 h k) h1 h2 ha hs
theorem se_all (C : Cn X N sc fr) (h1 : ("all" : Str) ∈ fr) (h2 : glB sc "all" = true) (ha : SOp X g W a oa) (hs : starEach [a] X.env = (false, eval a X.env) :: starEach [] X.env) : SE X g W (.Call (.Name "all" p2) [a] [] pos) (mOp1 allD oa) :=
  se_b1 C (id := "all") (cr_all C.calm) (by decide +kernel) (by decide) (by decide) (fun F H x d1 d Q s r1 h k => hr_all s r1 h k) h1 h2 ha hs
theorem se_any (C : Cn X N sc fr) (h1 : ("any" : Str) ∈ fr) (h2 : glB sc "any" = true) (ha : SOp X g W a oa) (hs : starEach [a] X.env = (false, eval a X.env) :: starEach [] X.env) : SE X g W (.Call (.Name "any" p2) [a] [] pos) (mOp1 anyD oa) :=
  se_b1 C (id := "any") (cr_any C.calm) (by decide +kernel) (by decide) (by decide) (fun F H x d1 d Q s r1 h k => hr_any s r1 h k) h1 h2 ha hs
theorem se_max2 (C : Cn X N sc fr) (h1 : ("max" : Str) ∈ fr) (h2 : glB sc "max" = true) (ha : SOp X g W a oa) (hb : SOp X g W b ob) (hs : starEach [a, b] X.env = (false, eval a X.env) :: starEach [b] X.env) (hs2 : starEach [b] X.env = (false, eval b X.env) :: starEach [] X.env) (hpl : (backTo pos (starEach [b] X.env)).any (·.1) = false) :
    SE X g W (.Call (.Name "max" p2) [a, b] [] pos) (mOp2 max2D oa ob) :=
  se_b2 C (id := "max") (call_max2 C.calm) (by decide +kernel) (by decide) (by decide) (fun F H x y d1 d2 d Q s r1 r2 h k => hr_max2 s r1 r2 h k) h1 h2 ha hb hs hs2 hpl
theorem se_min2 (C : Cn X N sc fr) (h1 : ("min" : Str) ∈ fr) (h2 : glB sc "min" = true) (ha : SOp X g W a oa) (hb : SOp X g W b ob) (hs : starEach [a, b] X.env = (false, eval a X.env) :: starEach [b] X.env) (hs2 : starEach [b] X.env = (false, eval b X.env) :: starEach [] X.env) (hpl : (backTo pos (starEach [b] X.env)).any (·.1) = false) :
    SE X g W (.Call (.Name "min" p2) [a, b] [] pos) (mOp2 min2D oa ob) :=
  se_b2 C (id := "min") (call_min2 C.calm) (by decide +kernel) (by decide) (by decide) (fun F H x y d1 d2 d Q s r1 r2 h k => hr_min2 s r1 r2 h k) h1 h2 ha hb hs hs2 hpl
/-- the block of a comprehension -/
theorem Cn.blk (C : Cn X N sc fr) {scope : Scope} (s : Shared) (H : Hp) (A : Addr) (cl : List (Str × Addr)) (fp : List Addr) : Cn (X.blk s H scope (compEnvC scope cl A X.env) fp) N (relS scope sc) fr where
  hN := C.hN
  nd := C.nd
  hsc := by
    show relS scope X.env.scope = _
    rw [C.hsc]
  calm := C.calm
  hu := C.hu
  hfr := C.hfr
theorem takes0 : Takes X W0 := fun u s' x => by
  obtain ⟨a, B, sI, pins, σ, H, cls, d, _, _, _, _, _, _, _, _, w⟩ := x
  exact w.elim
end
section
variable {P : Program} {w : World} {K : PySem.W.Frag} {mg : Str → Option Value} {base : Heap} {x qual : Str} {params : Arguments} {body : List Stmt} {scope : Scope} {dvs : List V} {kws : List (Str × V)} {f : Addr} {fd : FuncData}
theorem fn_ok {N ps fr : List Str} {mask : List Bool} {k : Nat} {m : MS} {g : GF} (Fd : FunD K x qual params body scope dvs kws f fd) (S : FnScope N ps scope) (hm : mask.length = ps.length) (hn : mask.length ≤ N.length) (hfr : ∀ x ∈ fr, mg x = none)
    (hb : ∀ (cdv : Value) (A : Around) (outer : List Env) (s : Shared) (H : Hp) (E : XK), Room k (cxOf (L2.CX P w) P w K mg base N qual scope f cdv A outer s H E).A → Cn (cxOf (L2.CX P w) P w K mg base N qual scope f cdv A outer s H E) N scope fr →
      Takes (cxOf (L2.CX P w) P w K mg base N qual scope f cdv A outer s H E) (fun cls d _ H => E cls d H) → PassesOwn (model P w) (cxOf (L2.CX P w) P w K mg base N qual scope f cdv A outer s H E).A (cxOf (L2.CX P w) P w K mg base N qual scope f cdv A outer s H E).env (cxOf (L2.CX P w) P w K mg base N qual scope f cdv A outer s H E).xe →
      SSs (cxOf (L2.CX P w) P w K mg base N qual scope f cdv A outer s H E) g (fun cls d _ H => E cls d H) (lix 0 mask) body m) :
    FnOk P w K mg base (L2.CX P w) (k + 1) f fd ps (Prom ⟨g, K⟩ mask (callF N.length mask m)) :=
  Fd.ok S (Prom.len hm) fun cdv A outer s H vs Q E room sp =>
    ⟨_, hb cdv A outer s H E room ⟨rfl, S.nd, rfl, rfl, by have := room.un; show (A.deeper _).units + 200 < cLine; omega, hfr⟩ (takes_of rfl rfl rfl rfl) (passes_of rfl), body_plain hn sp⟩
end
end EV

/-! EvO: displays of dicts, zip, index, items of items. -/
namespace EV
open PySem PySem.Spec PyProof.Rows L2
section
variable {X : Cx} {N : List Str} {sc : Scope} {fr : List Str} {g : GF} {G : GI} {W : WX} {L : List Nat} {a b c : Expr} {es : List Expr} {pos p2 p3 p4 p5 : Pos} {oa ob : Op} {m n t : ME} {F H F1 H1 F' H' : Hp} {fp fp1 fp' : Nat → List Addr} {σ σ1 : L2.St} {e e' : DEnv}
/-! ### {}, {key: value} -/
def mDnew (d : D) : ME := fun e => .ok d e
theorem se_dnewK : SE X g W (.Dict [] [] pos) (mDnew (.dk true [])) := PE.imp pe_dnewK fun σ H Q ⟨F, fp, e, s, h⟩ => fun p hp => by
  refine h (.ref p) F _ fp [p] (s.new hp) ⟨.dko upd_same rfl .nil, by simp, fun c z => ?_, fun c z => ?_⟩ ((Tr.new hp).drop fun c z => z.imp id fun z => List.mem_singleton.mp z)
  · rw [List.mem_singleton.mp z]; exact s.fnone hp
  · rw [List.mem_singleton.mp z]; exact s.noown hp
theorem se_dnewT : SE X g W (.Dict [] [] pos) (mDnew (.dt true [])) := PE.imp pe_dnewT fun σ H Q ⟨F, fp, e, s, h⟩ => fun p hp => by
  refine h (.ref p) F _ fp [p] (s.new hp) ⟨.dto upd_same rfl .nil, by simp, fun c z => ?_, fun c z => ?_⟩ ((Tr.new hp).drop fun c z => z.imp id fun z => List.mem_singleton.mp z)
  · rw [List.mem_singleton.mp z]; exact s.fnone hp
  · rw [List.mem_singleton.mp z]; exact s.noown hp
def tDisp1T (tk tv : TE) : TE := fun σ H Q => ∀ p, H p = none → tk σ (upd H p (.dT [])) fun x H1 => tv σ H1 fun y H2 => H2 p = some (.dT []) ∧ ∃ ks b, x = .ref b ∧ H2 b = some (.tup (ks.map kV)) ∧ Q (.ref p) (upd H2 p (.dT [(ks, y)]))
theorem pe_disp1T {k v : Expr} {tk tv : TE} (hu : X.A.units + 1 < cLine) (hk : PE X k tk) (hv : PE X v tv) : PE X (.Dict [some k] [v] pos) (tDisp1T tk tv) := by
  refine ⟨fun pins s σ H Q I q => ?_⟩
  have hn := I.hok.fresh (Nat.le_refl s.heap.objs.size)
  have I1 := I.laid (a := s.heap.objs.size) (o := .dT []) (h' := s.heap.push { cls := .type "dict", data := .dict #[] }) (t' := s.toks) (fun _ _ q => Heap.get?_push_of_some _ q) (Nat.le_refl _) (dt_empty s.heap I.big)
  rw [arm_eval_Dict, zip_pairTrees [some k] [v] X.env pos rfl rfl, dictDisplay_pairs _ (by simp [pairTrees]) (by simp [pairTrees])]
  refine wpAny_bind (wpAny_standAt (wpAny_bind ?_))
  unfold subDict
  refine wpAny_bind (wpAny_alloc ?_)
  refine wpAny_bind (wpAny_holding ?_)
  rw [if_pos (by simp [pairTrees])]
  refine wpAny_bind (evalPairs_cons (thn (hk.run pins _ σ _ _ I1 (q _ hn)) fun u s1 ⟨x, H1, I2, rx, q1⟩ => ?_))
  refine wpAny_bind (thn (hv.run pins _ σ _ _ I2 q1) fun r s2 ⟨y, H2, I3, ry, e2, ks, bb, ex, eb, q2⟩ => ?_)
  subst ex
  cases (show u = Value.ref bb from rx)
  refine wpAny_bind (wpAny_standAt (wpAny_pure (evalPairs_nil ?_)))
  refine wpAny_holding ?_
  rw [List.forIn_cons]
  obtain ⟨z, hd, xs, rel, dd⟩ := dt_of I3.hok e2
  cases rel
  refine wpAny_bind (wpAny_bind (wpAny_bind (wpAny_dictSet_heap (hsz := by simp) (show (tupleKind (mixKind X.prog X.w)).room X.A from Nat.lt_of_succ_lt hu) (key_of I3.hok eb) dd fun h' dd' hs => wpAny_pure ?_)))
  dsimp only
  rw [List.forIn_nil]
  refine wpAny_pure (wpAny_pure (wpAny_pure (wpAny_pure ?_)))
  obtain ⟨o, es, ep, hq, h2, h3, h4, _, h5⟩ := dd'
  refine ⟨.ref s.heap.objs.size, _, d_write (ob := .dT [(ks, y)]) I3 (by rw [e2]; exact True.intro) hs ⟨o, hq⟩ ⟨?_, hd, _, (KT.put .nil ks eb ry).keeps fun c ys ec => ?_, o, es, ep, hq, h2, h3, h4, h5⟩, rfl, q2⟩
  · show 1 ≤ sizeLine
    decide
  · rw [upd_ne (ne_of ec e2 (fun z => nomatch z))]
    exact ec
def mDisp1T (mk mv : ME) : ME := fun e => match mk e with
  | .ok dk e1 => match frz dk with
    | .tup ks => match keysD ks with
      | some key => match mv e1 with
        | .ok dv e2 => .ok (.dt true [(key, frz dv)]) e2
        | .ex c d e2 => .ex c d e2
        | .no => .no
      | none => .no
    | _ => .no
  | .ex c d e1 => .ex c d e1
  | .no => .no
theorem se_disp1T (C : Cn X N sc fr) (ha : SE X g W a m) (hb : SE X g W b n) : SE X g W (.Dict [some a] [b] pos) (mDisp1T m n) := PE.imp (pe_disp1T C.hu1 ha.z hb.z) fun σ H Q h => by
  obtain ⟨F, fp, e, s, h⟩ := RdE.iff.mp h
  intro p hp
  have s0 := s.new (o := .dT []) hp
  refine ⟨F, fp, e, s0, ?_⟩
  unfold mDisp1T at h
  have tr0 : Tr F H (own fp) F (upd H p (.dT [])) (fun c => own fp c ∨ c ∈ [p]) := (Tr.new hp).drop fun c z => z.imp id fun z => List.mem_singleton.mp z
  have t0 : TO (gOf X g) F (upd H p (.dT [])) fp [p] (.ref p) (.dt true []) := ⟨.dto upd_same rfl .nil, by simp, fun c z => by rw [List.mem_singleton.mp z]; exact s.fnone hp, fun c z => by rw [List.mem_singleton.mp z]; exact s.noown hp⟩
  cases q : m e with
  | ex c d e1 =>
    rw [q] at h
    intro dx v F1 H1 fp1 p1 s1 t1 tr1 hx
    exact h dx v F1 H1 fp1 p1 s1 t1 ((tr0.trans (tr1.weak (P := fun c => own fp c ∨ c ∈ [p]) (P1 := fun c => own fp1 c ∨ c ∈ p1) (fun _ z => .inl z) fun c z => .inl z))) hx
  | no => rw [q] at h; exact h
  | ok dk e1 =>
    rw [q] at h
    intro v F1 H1 fp1 s1 r1 tr1
    simp only at h
    generalize frz dk = dz at h r1
    cases dz with
    | tup ks =>
      simp only at h
      obtain ⟨bb, vs, rfl, hb1, rb⟩ := r1.tup_inv
      cases q1 : keysD ks with
      | none => rw [q1] at h; exact h.elim
      | some key =>
        rw [q1] at h
        simp only at h
        have t1 := t0.keep tr1 fun _ z => z
        refine ⟨F1, fp1, e1, s1, ?_⟩
        have tr01 : Tr F H (own fp) F1 H1 (fun c => own fp1 c ∨ c ∈ [p]) := tr0.trans tr1.hold0
        cases q2 : n e1 with
        | ex c d e2 =>
          rw [q2] at h
          intro dx v F2 H2 fp2 p2 s2 t2 tr2 hx
          exact h dx v F2 H2 fp2 p2 s2 t2 (tr01.trans (tr2.weak (P := fun c => own fp1 c ∨ c ∈ [p]) (P1 := fun c => own fp2 c ∨ c ∈ p2) (fun _ z => .inl z) fun c z => .inl z)) hx
        | no => rw [q2] at h; exact h
        | ok dv e2 =>
          rw [q2] at h
          intro y F2 H2 fp2 s2 r2 tr2
          have t2 := t1.keep tr2 fun _ z => z
          obtain ⟨a0, kvs, ea, _, hk, hk2, _⟩ := t2.r.dto_inv
          cases ea
          have ek : kvs = [] := List.map_eq_nil_iff.mp hk2
          subst ek
          have hb2 : H2 bb = some (.tup (key.map kV)) := by
            rw [← keysD_rep rb q1]; exact s2.sub _ _ (tr2.ff _ _ hb1)
          refine ⟨hk, key, bb, rfl, hb2, ?_⟩
          have pnF : F2 p = none := t2.sep p (List.mem_singleton.mpr rfl)
          have pnO : ¬ own fp2 p := t2.dj p (List.mem_singleton.mpr rfl)
          have hH : ∀ b o, b ≠ p → H2 b = some o → upd H2 p (.dT [(key, y)]) b = some o := fun b o z w => by rw [upd_ne z]; exact w
          have s3 : SO (gOf X g) F2 (upd H2 p (.dT [(key, y)])) fp2 σ e2 := s2.frame (p := [p]) (O' := fun c => c ∈ [p]) (fun c z w => pnO (by rwa [List.mem_singleton.mp z] at w)) ⟨fun _ _ z => z, fun b o n z => hH b o (fun u => n (List.mem_singleton.mpr u)) z, fun _ z => .inl z, fun _ _ z => .inl z⟩ fun b o z => hH b o (fun u => by rw [u, pnF] at z; cases z) (s2.sub b o z)
          refine h (.ref p) F2 _ fp2 [p] s3 ⟨.dto upd_same rfl (ROs.consZ (r2.mono (fun _ _ z => z) fun a z => nomatch z) .nil), by simp, fun c z => ?_, fun c z => ?_⟩ ?_
          · rw [List.mem_singleton.mp z]; exact pnF
          · rw [List.mem_singleton.mp z]; exact pnO
          · refine (tr01.trans tr2.hold0).trans ⟨fun _ _ z => z, fun b o n z => hH b o (fun u => n (.inr (List.mem_singleton.mpr u))) z, fun _ z => .inl z, fun _ _ z => .inl z⟩
    | _ => exact h.elim
/-! ### zip of two -/
def zipD : D → D → Option (List D)
  | .tup xs, .tup ys => some (List.zipWith (fun x y => .tup [x, y]) xs ys)
  | .lst _ xs, .lst _ ys => some (List.zipWith (fun x y => .tup [x, y]) xs ys)
  | _, _ => none
def mZip2 (m n : ME) : MI := fun e => match m e with
  | .ok d1 e1 => match n e1 with
    | .ok d2 e2 => match zipD (frz d1) (frz d2) with
      | some ds => .ok ds none e2
      | none => .no
    | .ex c d e2 => .ex c d e2
    | .no => .no
  | .ex c d e1 => .ex c d e1
  | .no => .no
theorem zipW_get {xs ys : List D} {k : Nat} {d : D} (h : (List.zipWith (fun x y => D.tup [x, y]) xs ys)[k]? = some d) : ∃ x y, xs[k]? = some x ∧ ys[k]? = some y ∧ d = .tup [x, y] := by
  rw [List.getElem?_zipWith] at h
  cases h1 : xs[k]? with
  | none => rw [h1] at h; cases h
  | some x =>
    cases h2 : ys[k]? with
    | none => rw [h1, h2] at h; cases h
    | some y =>
      rw [h1, h2] at h
      injection h with h
      exact ⟨x, y, rfl, rfl, h.symm⟩
theorem pair_new {T : Addr} {x y : V} {dx dy : D} (sb : Sb F H) (hT : H T = none) (rx : RO G F H [] x dx) (ry : RO G F H [] y dy) :
    ∃ F', (∀ a o, F a = some o → F' a = some o) ∧ (∀ a o, H a = some o → upd H T (.tup [x, y]) a = some o) ∧ Sb F' (upd H T (.tup [x, y])) ∧ (∀ a o, F' a = some o → F a = some o ∨ H a = none) ∧ RO G F' (upd H T (.tup [x, y])) [] (.ref T) (.tup [dx, dy]) := by
  have fT : F T = none := by
    cases q : F T with
    | none => rfl
    | some o => rw [sb T o q] at hT; cases hT
  refine ⟨upd F T (.tup [x, y]), upd_le fT, upd_le hT, fun b u z => ?_, fun b u z => ?_, .tup upd_same ?_⟩
  · by_cases e : b = T
    · subst e; rw [upd_same] at z ⊢; exact z
    · rw [upd_ne e] at z ⊢; exact sb b u z
  · by_cases e : b = T
    · subst e; exact .inr hT
    · rw [upd_ne e] at z; exact .inl z
  · exact ROs.consZ (rx.mono (upd_le fT) fun a z => nomatch z) (ROs.consZ (ry.mono (upd_le fT) fun a z => nomatch z) .nil)
theorem itok_zipL {K : PySem.W.Frag} {A B : Addr} {P : List Addr} {H0 : Hp} {vs ws : List V} {xs ys : List D} (h1 : F A = some (.lst vs)) (h2 : F B = some (.lst ws)) (r1 : ROs G F H [] vs xs) (r2 : ROs G F H [] ws ys) : ItOk G (Itz K A B) F P H0 (List.zipWith (fun x y => .tup [x, y]) xs ys) where
  go := fun F' H' k d q1 _ q2 q3 => by
    obtain ⟨x, y, e1, e2, rfl⟩ := zipW_get q3
    obtain ⟨u, hu, ru⟩ := r1.get e1
    obtain ⟨w, hw, rw'⟩ := r2.get e2
    refine ⟨⟨vs, ws, u, w, SqL.of (q2 _ _ (q1 _ _ h1)), SqL.of (q2 _ _ (q1 _ _ h2)), hu, hw⟩, fun v H2 yl => ?_⟩
    obtain ⟨T, x', y', rfl, hT, rfl, f1, f2⟩ := yl
    have g1 := f1 vs (SqL.of (q2 _ _ (q1 _ _ h1)))
    have g2 := f2 ws (SqL.of (q2 _ _ (q1 _ _ h2)))
    rw [hu] at g1; rw [hw] at g2
    cases g1; cases g2
    exact pair_new q2 hT (ru.monoZ q1) (rw'.monoZ q1)
  stop := fun F' H' q1 _ q2 => ⟨vs, ws, SqL.of (q2 _ _ (q1 _ _ h1)), SqL.of (q2 _ _ (q1 _ _ h2)), by
    rw [List.length_zipWith, r1.length, r2.length]; omega⟩
theorem itok_zipT {K : PySem.W.Frag} {A B : Addr} {P : List Addr} {H0 : Hp} {vs ws : List V} {xs ys : List D} (h1 : F A = some (.tup vs)) (h2 : F B = some (.tup ws)) (r1 : ROs G F H [] vs xs) (r2 : ROs G F H [] ws ys) : ItOk G (RZ.ItzT K A B) F P H0 (List.zipWith (fun x y => .tup [x, y]) xs ys) where
  go := fun F' H' k d q1 _ q2 q3 => by
    obtain ⟨x, y, e1, e2, rfl⟩ := zipW_get q3
    obtain ⟨u, hu, ru⟩ := r1.get e1
    obtain ⟨w, hw, rw'⟩ := r2.get e2
    refine ⟨⟨vs, ws, u, w, SqT.of (q2 _ _ (q1 _ _ h1)), SqT.of (q2 _ _ (q1 _ _ h2)), hu, hw⟩, fun v H2 yl => ?_⟩
    obtain ⟨T, x', y', rfl, hT, rfl, f1, f2⟩ := yl
    have g1 := f1 vs (SqT.of (q2 _ _ (q1 _ _ h1)))
    have g2 := f2 ws (SqT.of (q2 _ _ (q1 _ _ h2)))
    rw [hu] at g1; rw [hw] at g2
    cases g1; cases g2
    exact pair_new q2 hT (ru.monoZ q1) (rw'.monoZ q1)
  stop := fun F' H' q1 _ q2 => ⟨vs, ws, SqT.of (q2 _ _ (q1 _ _ h1)), SqT.of (q2 _ _ (q1 _ _ h2)), by
    rw [List.length_zipWith, r1.length, r2.length]; omega⟩
theorem si_zip2 {elts : List Expr} {kk : Nat} {tpos : Pos} (C : Cn X N sc fr) (h1 : ("zip" : Str) ∈ fr) (h2 : glB sc "zip" = true) (ha : SE X g W a m) (hb : SE X g W b n) (hs : starEach [a, b] X.env = (false, eval a X.env) :: starEach [b] X.env) (hs2 : starEach [b] X.env = (false, eval b X.env) :: starEach [] X.env) (hpl : (backTo pos (starEach [b] X.env)).any (·.1) = false) :
    SI X g W (.Tuple elts kk tpos) (.Call (.Name "zip" p2) [a, b] [] pos) (mZip2 m n) := PI.imp (RZ.pi_zipA (gl_ok C h2) (C.hfr _ h1) (pa_cons ha.z (pa_cons hb.z pa_nil hs2) hs) hs hpl) fun σ H R ⟨F, fp, e, s, h⟩ => by
  refine ⟨F, fp, e, s, ?_⟩
  unfold mZip2 at h
  cases q : m e with
  | ex c d e1 => rw [q] at h; exact h
  | no => rw [q] at h; exact h
  | ok d1 e1 =>
    rw [q] at h
    intro x F1 H1 fp1 s1 r1 tr1
    refine ⟨F1, fp1, e1, s1, ?_⟩
    simp only at h
    cases q1 : n e1 with
    | ex c d e2 => rw [q1] at h; exact XOut.trans h tr1
    | no => rw [q1] at h; exact h
    | ok d2 e2 =>
      rw [q1] at h
      intro y F2 H2 fp2 s2 r2 tr2
      simp only at h
      have r1 := r1.mono (F' := F2) (H' := H2) tr2.ff fun a z => nomatch z
      generalize frz d1 = z1 at h r1
      generalize frz d2 = z2 at h r2
      cases z1 with
      | tup xs =>
        cases z2 with
        | tup ys =>
          obtain ⟨A, vs, rfl, ha, ra⟩ := r1.tup_inv
          obtain ⟨B, ws, rfl, hb, rb⟩ := r2.tup_inv
          exact ⟨A, B, vs, ws, rfl, .inr ⟨SqT.of (s2.sub _ _ ha), SqT.of (s2.sub _ _ hb), h _ F2 H2 fp2 [] s2 rfl (tr1.trans tr2).nil (itok_zipT ha hb ra rb)⟩⟩
        | _ => exact h.elim
      | lst o xs =>
        cases z2 with
        | lst o2 ys =>
          obtain ⟨_, A, vs, rfl, ha, ra⟩ := r1.lst_inv
          obtain ⟨_, B, ws, rfl, hb, rb⟩ := r2.lst_inv
          exact ⟨A, B, vs, ws, rfl, .inl ⟨SqL.of (s2.sub _ _ ha), SqL.of (s2.sub _ _ hb), h _ F2 H2 fp2 [] s2 rfl (tr1.trans tr2).nil (itok_zipL ha hb ra rb)⟩⟩
        | _ => exact h.elim
      | _ => exact h.elim
/-! ### l.index(x) -/
def indexD : D → D → Option D
  | .lst _ ys, a => if eqOk 60 a && eqOks 59 ys then (ys.findIdx? fun z => eqvD z a).map fun j => .int (j : Nat) else none
  | _, _ => none
def mIdx (k : Nat) (ob : Op) : ME := fun e => match e[k]? with
  | some (some (.lst _ _)) => (ob.run e).bind fun p e1 => (PV.v k).see e1 fun dl e2 => p.see e2 fun d e3 => RE.of (indexD dl d) e3
  | _ => .no
theorem pds_get : ∀ {ds : List D} {k : Nat} {z : PyData}, (pds ds)[k]? = some z → ∃ d, ds[k]? = some d ∧ z = pd d
  | [], _, _, h => by cases h
  | d :: ds, 0, _, h => by injection h with h; exact ⟨d, rfl, h.symm⟩
  | d :: ds, k + 1, _, h => pds_get (ds := ds) (k := k) h
theorem eqOks_get {n : Nat} : ∀ {ds : List D} {k : Nat} {d : D}, eqOks n ds = true → ds[k]? = some d → eqOk n d = true
  | [], _, _, _, h => by cases h
  | d :: ds, k, d', h, hk => by
    have h2 : (eqOk n d && eqOks n ds) = true := by cases n <;> exact h
    rw [Bool.and_eq_true] at h2
    cases k with
    | zero => injection hk with hk; rw [← hk]; exact h2.1
    | succ k => exact eqOks_get h2.2 hk
theorem hr_index {x y : V} {dl d1 d : D} {Q : VK} (s : Sb F H) (r1 : RB G F H x dl) (r2 : RB G F H y d1) (h : indexD dl d1 = some d) (k : KR G F H d Q) : rIndexD G.K x [y] H Q := by
  cases dl <;> first | (cases h; done) | skip
  rename_i o ys
  have h : (if eqOk 60 d1 && eqOks 59 ys then (ys.findIdx? fun z => eqvD z d1).map (fun j => D.int (j : Nat)) else none) = some d := h
  split at h
  · rename_i he
    rw [Bool.and_eq_true] at he
    cases q : ys.findIdx? (fun z => eqvD z d1) with
    | none => rw [q] at h; cases h
    | some j =>
      rw [q] at h
      injection h with h; subst h
      obtain ⟨hj, h1, h2⟩ := List.findIdx?_eq_some_iff_getElem.mp q
      obtain ⟨_, a, vs, rfl, ha, ra⟩ := r1.lst_inv s
      have hl : ∀ {ds : List D}, (pds ds).length = ds.length := by
        intro ds
        induction ds with
        | nil => rfl
        | cons d ds ih => exact congrArg (· + 1) ih
      have gp : ∀ {ds : List D} {k : Nat} {d : D}, ds[k]? = some d → (pds ds)[k]? = some (pd d) := by
        intro ds
        induction ds with
        | nil => intro k d h; cases h
        | cons d ds ih =>
          intro k d' h
          cases k with
          | zero => injection h with h; subst h; rfl
          | succ k => exact ih h
      refine ⟨a, y, pd d1, pds ys, j, pd ys[j], rfl, rfl, dp_ofB (n := 60) (d := .lst o ys) s r1 he.2, dp_ofB s r2 he.1, shaped_of (n := 60) (d := .lst o ys) he.2 (by decide), shaped_of he.1 (by decide), gp (List.getElem?_eq_getElem hj), ?_, fun m z' hm hz => ?_, k.z s (.int _)⟩
      · rw [eqv_of 59 _ d1 60 (eqOks_get he.2 (List.getElem?_eq_getElem hj)) he.1]; exact h1
      · obtain ⟨d', e1, e2⟩ := pds_get hz
        subst e2
        rw [eqv_of 59 d' d1 60 (eqOks_get he.2 e1) he.1]
        have := h2 m hm
        have hm' : m < ys.length := Nat.lt_trans hm hj
        rw [List.getElem?_eq_getElem hm'] at e1
        injection e1 with e1
        subst e1
        simpa using this
  · cases h
theorem RO.lst_any {p : List Addr} {v : V} {o : Bool} {ds : List D} (s : Sb F H) (r : RO G F H p v (.lst o ds)) : ∃ a vs, v = .ref a ∧ H a = some (.lst vs) := by
  cases r with
  | lz e r => exact ⟨_, _, rfl, s _ _ e⟩
  | lo e r => exact ⟨_, _, rfl, e⟩
theorem se_index {k : Nat} {x : Str} (C : Cn X N sc fr) (hx : varB N sc k x = true) (hb : SOp X g W a ob) (hs : starEach [a] X.env = (false, eval a X.env) :: starEach [] X.env) (hl : (p3.endLine == pos.line) = true) :
    SE X g W (.Call (.Attribute (.Name x p2) "index" p3) [a] [] pos) (mIdx k ob) := PE.imp (pe_bm PySem.F.plainAttrs_list PySem.F.slot_list_index PySem.F.type_list_index (mt_indexD C.hu65) (pv_ok C hx) (pa_cons hb pa_nil hs) rfl (fewOk hs) hl hs) fun σ H Q h => by
  obtain ⟨F, fp, e, s, h⟩ := RdE.iff.mp h
  unfold mIdx at h
  cases q : e[k]? with
  | none => rw [q] at h; exact h.elim
  | some o =>
    cases o with
    | none => rw [q] at h; exact h.elim
    | some d0 =>
      cases d0 with
      | lst o xs0 =>
        rw [q] at h
        simp only at h
        obtain ⟨v, hv, r0⟩ := s.rep k _ q
        refine ⟨v, hv, ?_, ?_⟩
        · obtain ⟨a0, vs0, rfl, e0⟩ := r0.lst_any s.sub
          exact .inl ⟨rfl, _, SqL.of e0⟩
        · refine RdO.step ob s ?_
          cases q1 : ob.run e with
          | ok p e1 =>
            rw [q1] at h
            rw [RP.bind_ok] at h
            intro y F1 H1 fp1 s1 tr1 pv
            have ne := EOut.ne h
            obtain ⟨dl, e2, F2, fp2, s2, b2, tr2, kk⟩ := PV.see_ok (p := .v k) s1 hv rfl ne
            rw [← kk] at h
            have ne2 := EOut.ne h
            obtain ⟨d, e3, F3, fp3, s3, b3, tr3, kk3⟩ := PV.see_ok s2 (pv.mono tr2.ff) rfl ne2
            rw [← kk3] at h
            cases q5 : indexD dl d with
            | none => rw [q5] at h; exact h.elim
            | some dr =>
              rw [q5] at h
              have b2 := b2.mono tr3.ff fun _ _ z => z
              have kr := SO.kr (d := dr) s3 (Q := Q) ?_
              · exact hr_index s3.sub b2 b3 q5 kr
              · exact fun v F' H' fp' p s' t' tr => h v F' H' fp' p s' t' ((tr1.trans (tr2.trans tr3)).trans tr)
          | ex c d e1 => rw [q1] at h; exact h
          | no => rw [q1] at h; exact h.elim
      | _ => rw [q] at h; exact h.elim
end
end EV

/-! EvP: items of items of one's own lists; calls by keywords. -/
namespace EV
open PySem PySem.Spec PyProof.Rows L2
inductive IA where
  | s (i : Nat) | c (n : Int)
def ixAt : IA → DEnv → Option Int
  | .s i, e => match e[i]? with
    | some (some (.int n)) => some n
    | _ => none
  | .c n, _ => some n
def RdX : IA → TE
  | .s i => tVar i
  | .c n => tC (.int n)
def mIx2 (k : Nat) (i j : IA) : ME := fun e => match e[k]? with
  | some (some (.lst true rows)) => match ixAt i e with
    | some a => match ixAt j e with
      | some b => match atI rows a with
        | some (.lst true xs) => match atI xs b with
          | some d => if fzs xs = true then .ok d e else .no
          | none => .no
        | _ => .no
      | none => .no
    | none => .no
  | _ => .no
def mSet2 (k : Nat) (i j : IA) (m : ME) : MS := fun e => (m e).toS fun d e1 => match e1[k]? with
  | some (some (.lst true rows)) => match ixAt i e1 with
    | some a => match ixAt j e1 with
      | some b => match ixN rows.length a with
        | some r => match rows[r]? with
          | some (.lst true xs) => match ixN xs.length b with
            | some q => if (fzs xs && fz d) = true then .nx (e1.set k (some (.lst true (rows.set r (.lst true (xs.set q d)))))) else .no
            | none => .no
          | _ => .no
        | none => .no
      | none => .no
    | none => .no
  | _ => .no
section
variable {X : Cx} {N : List Str} {sc : Scope} {fr : List Str} {g : GF} {G : GI} {W : WX} {L : List Nat} {a b c : Expr} {es : List Expr} {pos p2 p3 p4 p5 : Pos} {oa ob : Op} {m n t : ME} {F H F1 H1 F' H' : Hp} {fp fp1 fp' : Nat → List Addr} {σ σ1 : L2.St} {e e' : DEnv} {Dn : Ends}
abbrev SX (X : Cx) (e : Expr) (i : IA) : Prop := PE X e (RdX i)
theorem sx_s (C : Cn X N sc fr) {i : Nat} {x : Str} (h : varB N sc i x = true) : SX X (.Name x pos) (.s i) := pv_ok C h
theorem sx_c {i : Int} {j : Nat} : SX X (.Constant (.int i) j pos) (.c i) := pe_int
theorem RdX.of {ia : IA} {n : Int} {Q : VK} (s : SO G F H fp σ e) (h : ixAt ia e = some n) (q : Q (.int n) H) : RdX ia σ H Q := by
  cases ia with
  | s i =>
    unfold ixAt at h
    simp only at h
    cases q1 : e[i]? with
    | none => rw [q1] at h; cases h
    | some o =>
      cases o with
      | none => rw [q1] at h; cases h
      | some d =>
        cases d <;> (rw [q1] at h; first | cases h; done | skip)
        obtain ⟨v, hv, r⟩ := s.rep i _ q1
        injection h with h; subst h
        exact ⟨v, hv, by rw [r.int_inv]; exact q⟩
  | c i =>
    injection h with h; subst h
    exact q
theorem ROs.own_at : ∀ {fs : List Addr} {vs : List V} {ds : List D} {n : Nat} {xs : List D}, ROs G F H fs vs ds → fs.Nodup → ds[n]? = some (.lst true xs) → fzs xs = true →
    ∃ a ws, vs[n]? = some (.ref a) ∧ a ∈ fs ∧ H a = some (.lst ws) ∧ ROs G F H [] ws xs ∧ ∀ ws' xs', ROs G F H [] ws' xs' → ROs G F (upd H a (.lst ws')) fs vs (ds.set n (.lst true xs'))
  | _, _, [], n, _, _, _, h, _ => by cases h
  | _, _, d :: ds, 0, xs, rs, nd, h, hz => by
    injection h with h; subst h
    obtain ⟨v, ws, f, fs, rfl, rfl, r1, r2⟩ := rs.invD
    obtain ⟨n1, n2, n3⟩ := List.nodup_append.mp nd
    obtain ⟨a, us, f1, rfl, ef, ha, ru⟩ := r1.lo_inv
    subst ef
    have e1 := ru.nil_of_fz hz
    subst e1
    refine ⟨a, us, rfl, List.mem_append_left _ (List.mem_cons_self ..), ha, ru, fun ws' xs' r' => .cons (.lo upd_same (r'.mono (fun _ _ z => z) fun c z => nomatch z)) (r2.mono (fun _ _ z => z) fun c z o w => ?_)⟩
    rw [upd_ne]
    · exact w
    · intro u; subst u; exact n3 c (List.mem_cons_self ..) c z rfl
  | _, _, d :: ds, n + 1, xs, rs, nd, h, hz => by
    obtain ⟨v, ws, f, fs, rfl, rfl, r1, r2⟩ := rs.invD
    obtain ⟨n1, n2, n3⟩ := List.nodup_append.mp nd
    obtain ⟨a, us, h1, h2, h3, h4, h5⟩ := ROs.own_at (n := n) r2 n2 h hz
    refine ⟨a, us, h1, List.mem_append_right _ h2, h3, h4, fun ws' xs' r' => .cons (r1.mono (fun _ _ z => z) fun c z o w => ?_) (h5 ws' xs' r')⟩
    rw [upd_ne]
    · exact w
    · intro u; subst u; exact n3 c z c h2 rfl
theorem atI_some {α : Type} {xs : List α} {i : Int} {d : α} (h : atI xs i = some d) : ∃ r, ixN xs.length i = some r ∧ xs[r]? = some d := by
  unfold atI at h
  cases q : ixN xs.length i with
  | none => rw [q] at h; cases h
  | some r => rw [q] at h; exact ⟨r, rfl, h⟩
theorem atI_of {α : Type} {xs : List α} {i : Int} {d : α} {r : Nat} (h : ixN xs.length i = some r) (h2 : xs[r]? = some d) : atI xs i = some d := by
  unfold atI; rw [h]; exact h2
theorem se_ix2 {k : Nat} {x : Str} {i j : IA} (C : Cn X N sc fr) (hx : varB N sc k x = true) (ha : SX X a i) (hb : SX X b j) (hs1 : PlainIx a) (hs2 : PlainIx b) : SE X g W (.Subscript (.Subscript (.Name x p2) a p3) b pos) (mIx2 k i j) :=
  PE.imp (pe_ix ix_list (pe_ix ix_list (pv_ok C hx) ha hs1) hb hs2) fun σ H Q h => by
  obtain ⟨F, fp, e, s, h⟩ := RdE.iff.mp h
  unfold mIx2 at h
  cases q : e[k]? with
  | none => rw [q] at h; exact h.elim
  | some o =>
    cases o with
    | none => rw [q] at h; exact h.elim
    | some d0 =>
      cases d0 with
      | lst o rows =>
        cases o with
        | false => rw [q] at h; exact h.elim
        | true =>
          rw [q] at h
          simp only at h
          cases q1 : ixAt i e with
          | none => rw [q1] at h; exact h.elim
          | some ai =>
            cases q2 : ixAt j e with
            | none => rw [q1, q2] at h; exact h.elim
            | some bi =>
              rw [q1, q2] at h
              simp only at h
              cases q3 : atI rows ai with
              | none => rw [q3] at h; exact h.elim
              | some dr =>
                cases dr with
                | lst o xs =>
                  cases o with
                  | false => rw [q3] at h; exact h.elim
                  | true =>
                    rw [q3] at h
                    simp only at h
                    cases q4 : atI xs bi with
                    | none => rw [q4] at h; exact h.elim
                    | some d =>
                      rw [q4] at h
                      simp only at h
                      split at h
                      · rename_i hz
                        obtain ⟨v, hv, r⟩ := s.rep k _ q
                        obtain ⟨A, vs, fs, rfl, ep, ha, rs⟩ := r.lo_inv
                        have nd := s.nd k
                        rw [ep] at nd
                        obtain ⟨r1, e1, e2⟩ := atI_some q3
                        obtain ⟨B, ws, g1, g2, g3, g4, _⟩ := rs.own_at (List.nodup_cons.mp nd).2 e2 hz
                        obtain ⟨r2, e3, e4⟩ := atI_some q4
                        obtain ⟨u, hu, ru⟩ := g4.get e4
                        refine ⟨_, hv, RdX.of s q1 ⟨A, vs, ai, .ref B, rfl, rfl, SqL.of ha, atI_of (r := r1) (by rw [rs.length]; exact e1) g1, RdX.of s q2 ⟨B, ws, bi, u, rfl, rfl, SqL.of g3, atI_of (r := r2) (by rw [g4.length]; exact e3) hu, ?_⟩⟩⟩
                        exact h u F H fp [] s (TO.z ru) Tr.refl.nil
                      · exact h.elim
                | _ => rw [q3] at h; exact h.elim
      | _ => rw [q] at h; exact h.elim
theorem ss_sub2 {k : Nat} {x : Str} {i j : IA} (C : Cn X N sc fr) (hx : varB N sc k x = true) (hi : SX X a i) (hj : SX X b j) (hp1 : PlainIx a) (hv : SE X g W c m) (hs : swapsWithSole [.Subscript (.Subscript (.Name x p2) a p3) b p4] c pos.line X.env = pure false) (hw : swappedStores [.Subscript (.Subscript (.Name x p2) a p3) b p4] c X.env = pure none)
    (h1 : (assignEach [.Subscript (.Subscript (.Name x p2) a p3) b p4] X.env).map (·.2) = [assign (.Subscript (.Subscript (.Name x p2) a p3) b p4) X.env])
    (ha : ∀ v, assign (.Subscript (.Subscript (.Name x p2) a p3) b p4) X.env v = (do
      let ov ← holding [v] (eval (.Subscript (.Name x p2) a p3) X.env)
      let iv ← holding [v, ov] (eval b X.env)
      standAt p4
      holding [v, ov, iv] (setItem ov iv v)
      release [v, ov, iv] [])) : SS X g W L (.Assign [.Subscript (.Subscript (.Name x p2) a p3) b p4] c pos) (mSet2 k i j m) :=
  PS.imp (ps_asg hv (pg_sub (pe_ix ix_list (pv_ok C hx) hi hp1) hj set_list ha) hs hw h1) fun D σ H ⟨F, fp, e, s, h⟩ => by
  refine RdE.iff.mpr ⟨F, fp, e, s, ?_⟩
  unfold mSet2 at h
  cases q : m e with
  | ex c d e1 => rw [q] at h; exact h.x
  | no => rw [q] at h; exact h
  | ok d e1 =>
    rw [q] at h
    rw [RE.toS_ok] at h
    intro v F1 H1 fp1 p s1 t1 tr1
    cases q0 : e1[k]? with
    | none => rw [q0] at h; exact h.elim
    | some o =>
      cases o with
      | none => rw [q0] at h; exact h.elim
      | some d0 =>
        cases d0 with
        | lst o rows =>
          cases o with
          | false => rw [q0] at h; exact h.elim
          | true =>
            rw [q0] at h
            simp only at h
            cases q1 : ixAt i e1 with
            | none => rw [q1] at h; exact h.elim
            | some ai =>
              cases q2 : ixAt j e1 with
              | none => rw [q1, q2] at h; exact h.elim
              | some bi =>
                rw [q1, q2] at h
                simp only at h
                cases q3 : ixN rows.length ai with
                | none => rw [q3] at h; exact h.elim
                | some r =>
                  rw [q3] at h
                  simp only at h
                  cases q4 : rows[r]? with
                  | none => rw [q4] at h; exact h.elim
                  | some dr =>
                    cases dr with
                    | lst o xs =>
                      cases o with
                      | false => rw [q4] at h; exact h.elim
                      | true =>
                        rw [q4] at h
                        simp only at h
                        cases q5 : ixN xs.length bi with
                        | none => rw [q5] at h; exact h.elim
                        | some qq =>
                          rw [q5] at h
                          simp only at h
                          split at h
                          · rename_i hz
                            rw [Bool.and_eq_true] at hz
                            obtain ⟨u, hu, ro⟩ := s1.rep k _ q0
                            obtain ⟨A, vs, fs, rfl, ep, ha, rs⟩ := ro.lo_inv
                            have nd := s1.nd k
                            rw [ep] at nd
                            obtain ⟨n1, n2⟩ := List.nodup_cons.mp nd
                            obtain ⟨B, ws, g1, g2, g3, g4, g5⟩ := rs.own_at n2 q4 hz.1
                            have ez : p = [] := t1.r.nil_of_fz hz.2
                            subst ez
                            have hAB : A ≠ B := fun w => n1 (w ▸ g2)
                            have rn : ROs (gOf X g) F1 H1 [] (ws.set qq v) (xs.set qq d) := by
                              obtain ⟨w, w1, w2, w3⟩ := ROs.put t1.r (j := qq) g4 (ixN_seq q5).2.1 List.nodup_nil List.nodup_nil fun c z => nomatch z
                              have : w = [] := List.eq_nil_iff_forall_not_mem.mpr fun c z => (w3 c z).elim (fun z => nomatch z) fun z => nomatch z
                              subst this
                              exact w1
                            refine ⟨_, hu, RdX.of s1 q1 ⟨A, vs, ai, .ref B, rfl, rfl, SqL.of ha, atI_of (r := r) (by rw [rs.length]; exact q3) g1, RdX.of s1 q2 ⟨B, ws, bi, qq, rfl, rfl, g3, by rw [g4.length]; exact q5, ?_⟩⟩⟩
                            have hH : ∀ b o, b ∉ fp1 k → H1 b = some o → upd H1 B (.lst (ws.set qq v)) b = some o := fun b o z w => by
                              rw [upd_ne]
                              · exact w
                              · intro y; subst y; rw [ep] at z; exact z (List.mem_cons_of_mem _ g2)
                            have sub : ∀ c, c ∈ A :: fs → c ∈ fp1 k ∨ c ∈ ([] : List Addr) := fun c z => .inl (by rw [ep]; exact z)
                            have rnew : RO (gOf X g) F1 (upd H1 B (.lst (ws.set qq v))) (A :: fs) (.ref A) (.lst true (rows.set r (.lst true (xs.set qq d)))) := .lo (by rw [upd_ne hAB]; exact ha) (g5 _ _ rn)
                            have s2 := s1.mutate (p := []) q0 hu (fun c z => nomatch z) hH rnew nd sub
                            exact h σ F1 _ _ s2 (fun _ _ => rfl) ((tr1.drop fun c z => z).trans (Tr.mutate (p := []) (O := fun _ => True) hH sub))
                          · exact h.elim
                    | _ => rw [q4] at h; exact h.elim
        | _ => rw [q0] at h; exact h.elim
end
end EV

/-! EvQ: calls by keywords. -/
namespace EV
open PySem PySem.Spec PyProof.Rows L2
inductive KS where
  | a (i : Nat) | d (k : Nat)
/-- the parameters' values: from the written arguments, from the defaults -/
def genL {α : Type} (x0 : α) (dfl : List α) : List KS → List α → List α
  | [], _ => []
  | .a i :: r, us => us.getD i x0 :: genL x0 dfl r us
  | .d k :: r, us => dfl.getD k x0 :: genL x0 dfl r us
inductive RZs where
  | ok (ds : List D) (e : DEnv) | ex (c : Nat) (d : D) (e : DEnv) | no
def mZs : List ME → DEnv → RZs
  | [], e => .ok [] e
  | m :: ms, e => match m e with
    | .ok d e1 => match mZs ms e1 with
      | .ok ds e2 => .ok (frz d :: ds) e2
      | .ex c d e2 => .ex c d e2
      | .no => .no
    | .ex c d e1 => .ex c d e1
    | .no => .no
def mCallK (C : List D → RC) (dfl : List D) (src : List KS) (ms : List ME) : ME := fun e => match mZs ms e with
  | .ok ds e1 => match C (genL .non dfl src ds) with
    | .ok d _ => .ok d e1
    | .ex c d _ => .ex c d e1
    | .no => .no
  | .ex c d e1 => .ex c d e1
  | .no => .no
def tZs (G : GI) (W : WX) : List ME → TA
  | [] => tNil
  | m :: ms => tCons (RdZ G W m) (tZs G W ms)
section
variable {X : Cx} {N : List Str} {sc : Scope} {fr : List Str} {g : GF} {G : GI} {W : WX} {L : List Nat} {a b c : Expr} {es : List Expr} {kws : List Keyword} {pos p2 p3 p4 p5 : Pos} {F H F1 H1 F' H' : Hp} {fp fp1 fp' : Nat → List Addr} {σ σ1 : L2.St} {e e' : DEnv}
theorem Vals.getD' : ∀ {vs : List V} {us : List Value} (i : Nat), Vals vs us → RelV (vs.getD i .non) (us.getD i .none)
  | [], _, i, r => by cases r; exact rfl
  | v :: vs, _, 0, r => by cases r with | cons a b => exact a
  | v :: vs, _, i + 1, r => by cases r with | cons a b => exact Vals.getD' i b
theorem gen_vals {dv vs : List V} {du us : List Value} (hd : Vals dv du) (h : Vals vs us) : ∀ src, Vals (genL .non dv src vs) (genL .none du src us)
  | [] => .nil
  | .a i :: r => .cons (Vals.getD' i h) (gen_vals hd h r)
  | .d i :: r => .cons (Vals.getD' i hd) (gen_vals hd h r)
theorem ROs.getD' : ∀ {vs : List V} {ds : List D} (i : Nat), ROs G F H [] vs ds → RO G F H [] (vs.getD i .non) (ds.getD i .non)
  | [], [], i, _ => by simp; exact .non
  | [], _ :: _, _, r => nomatch r.length
  | _ :: _, [], _, r => nomatch r.length
  | v :: vs, d :: ds, 0, r => r.unconsZ.1
  | v :: vs, d :: ds, i + 1, r => ROs.getD' i r.unconsZ.2
theorem gen_ROs {dv vs : List V} {dd ds : List D} (hd : ROs G F H [] dv dd) (h : ROs G F H [] vs ds) : ∀ src, ROs G F H [] (genL .non dv src vs) (genL .non dd src ds)
  | [] => .nil
  | .a i :: r => ROs.consZ (ROs.getD' i h) (gen_ROs hd h r)
  | .d i :: r => ROs.consZ (ROs.getD' i hd) (gen_ROs hd h r)
theorem genL_length {α : Type} {x0 : α} {dfl us : List α} : ∀ src, (genL x0 dfl src us).length = src.length
  | [] => rfl
  | .a i :: r => congrArg (· + 1) (genL_length r)
  | .d i :: r => congrArg (· + 1) (genL_length r)
abbrev SZs (X : Cx) (g : GF) (W : WX) (es : List Expr) (ms : List ME) : Prop := PA X es (tZs (gOf X g) W ms)
theorem sz_nil : SZs X g W [] [] := pa_nil
theorem sz_cons {m : ME} {ms : List ME} (ha : SE X g W a m) (hr : SZs X g W es ms) (hs : starEach (a :: es) X.env = (false, eval a X.env) :: starEach es X.env) : SZs X g W (a :: es) (m :: ms) := pa_cons ha.z hr hs
abbrev SKs (X : Cx) (g : GF) (W : WX) (kws : List Keyword) (ms : List ME) : Prop := PK X kws (tZs (gOf X g) W ms)
theorem sk_nil : SKs X g W [] [] := pk_nil
theorem sk_cons {nm : Option Str} {m : ME} {ms : List ME} (ha : SE X g W a m) (hr : SKs X g W kws ms) : SKs X g W (⟨nm, a, p2⟩ :: kws) (m :: ms) := pk_cons ha.z hr
/-- the written values, all of them -/
def ZOut (G : GI) (W : WX) (σ : L2.St) (F H : Hp) (fp : Nat → List Addr) (Q : List V → Hp → Prop) : RZs → Prop
  | .ok ds e' => ∀ vs F' H' fp', SO G F' H' fp' σ e' → ROs G F' H' [] vs ds → Tr F H (own fp) F' H' (own fp') → Q vs H'
  | .ex c d e' => XOut G W σ F H fp c d e'
  | .no => False
theorem zs_run : ∀ {ms : List ME} {F H : Hp} {fp : Nat → List Addr} {e : DEnv} {Q : List V → Hp → Prop}, SO G F H fp σ e → ZOut G W σ F H fp Q (mZs ms e) → tZs G W ms σ H Q
  | [], F, H, fp, e, Q, s, h => h [] F H fp s .nil Tr.refl
  | m :: ms, F, H, fp, e, Q, s, h => by
    refine ⟨F, fp, e, s, ?_⟩
    unfold mZs at h
    cases q : m e with
    | ex c d e1 => rw [q] at h; exact h
    | no => rw [q] at h; exact h
    | ok d e1 =>
      rw [q] at h
      intro v F1 H1 fp1 s1 r1 tr1
      simp only at h
      refine zs_run s1 ?_
      cases q1 : mZs ms e1 with
      | ex c d2 e2 => rw [q1] at h; exact XOut.trans h tr1
      | no => rw [q1] at h; exact h
      | ok ds e2 =>
        rw [q1] at h
        exact fun vs F2 H2 fp2 s2 r2 tr2 => h (v :: vs) F2 H2 fp2 s2 (ROs.consZ (r1.mono tr2.ff fun a z => nomatch z) r2) (tr1.trans tr2)
theorem mZs_app : ∀ {ms1 ms2 : List ME} {e : DEnv}, mZs (ms1 ++ ms2) e = match mZs ms1 e with
    | .ok ds e1 => match mZs ms2 e1 with
      | .ok ds2 e2 => .ok (ds ++ ds2) e2
      | .ex c d e2 => .ex c d e2
      | .no => .no
    | .ex c d e1 => .ex c d e1
    | .no => .no
  | [], ms2, e => by
    show mZs ms2 e = match mZs ms2 e with
      | .ok ds2 e2 => RZs.ok ([] ++ ds2) e2
      | .ex c d e2 => .ex c d e2
      | .no => .no
    cases mZs ms2 e <;> rfl
  | m :: ms1, ms2, e => by
    show (match m e with
      | .ok d e1 => match mZs (ms1 ++ ms2) e1 with
        | .ok ds e2 => RZs.ok (frz d :: ds) e2
        | .ex c d e2 => .ex c d e2
        | .no => .no
      | .ex c d e1 => .ex c d e1
      | .no => .no) = match (match m e with
      | .ok d e1 => match mZs ms1 e1 with
        | .ok ds e2 => RZs.ok (frz d :: ds) e2
        | .ex c d e2 => .ex c d e2
        | .no => .no
      | .ex c d e1 => .ex c d e1
      | .no => .no) with
      | .ok ds e1 => match mZs ms2 e1 with
        | .ok ds2 e2 => .ok (ds ++ ds2) e2
        | .ex c d e2 => .ex c d e2
        | .no => .no
      | .ex c d e1 => .ex c d e1
      | .no => .no
    cases m e with
    | ok d e1 =>
      simp only
      rw [mZs_app (ms1 := ms1)]
      cases mZs ms1 e1 with
      | ok ds e2 =>
        simp only
        cases mZs ms2 e2 <;> rfl
      | ex c d e2 => rfl
      | no => rfl
    | ex c d e1 => rfl
    | no => rfl
theorem callK_plain {C : List D → RC} {mask : List Bool} {dfl : List D} {dvs : List V} {src : List KS} {ms1 ms2 : List ME} (hm : src.length = mask.length) (hz : ∀ F H, ROs G F H [] dvs dfl) {Q : VK} (h : RdE G W (mCallK C dfl src (ms1 ++ ms2)) σ H Q) :
    tZs G W ms1 σ H fun vs H1 => tZs G W ms2 σ H1 fun zs H2 => Prom G mask C (genL .non dvs src (vs ++ zs)) H2 Q (WE W σ) := by
  obtain ⟨F, fp, e, s, h⟩ := RdE.iff.mp h
  refine zs_run s ?_
  unfold mCallK at h
  rw [mZs_app] at h
  cases q : mZs ms1 e with
  | ex c d e1 => rw [q] at h; exact h
  | no => rw [q] at h; exact h
  | ok ds e1 =>
    rw [q] at h
    intro vs F1 H1 fp1 s1 r1 tr1
    refine zs_run s1 ?_
    simp only at h
    cases q1 : mZs ms2 e1 with
    | ex c d e2 => rw [q1] at h; exact XOut.trans h tr1
    | no => rw [q1] at h; exact h
    | ok ds2 e2 =>
      rw [q1] at h
      simp only at h
      intro zs F2 H2 fp2 s2 r2 tr2
      have r1 := r1.mono (F' := F2) (H' := H2) tr2.ff fun a z => nomatch z
      have r3 : ROs G F2 H2 [] (vs ++ zs) (ds ++ ds2) := r1.append r2
      have r4 := gen_ROs (hz F2 H2) r3 src
      refine ⟨by rw [genL_length]; exact hm, F2, [], _, r4, List.nodup_nil, (fun a z => nomatch z), s2.sub, ?_⟩
      have fin : ∀ {F' H' : Hp} {qv r : List Addr} {v : V} {d : D}, RO G F' H' qv v d → (qv ++ r).Nodup → (∀ a, a ∈ qv ++ r → F' a = none) → (∀ a o, F' a = some o → H' a = some o) → Tr F2 H2 (· ∈ ([] : List Addr)) F' H' (· ∈ qv ++ r) →
          SO G F' H' fp2 σ e2 ∧ TO G F' H' fp2 qv v d ∧ Tr F H (own fp) F' H' (fun a => own fp2 a ∨ a ∈ qv) := by
        intro F' H' qv r v d h1 h3 h4 h5 h6
        have s3 := s2.frame (p := []) (fun a z => nomatch z) h6 h5
        refine ⟨s3, ⟨h1, (List.nodup_append.mp h3).1, fun a z => h4 a (List.mem_append_left _ z), fun a z w => ?_⟩, ((tr1.trans tr2).trans (h6.weak (P := own fp2) (P1 := fun a => own fp2 a ∨ a ∈ qv) (fun a z => nomatch z) fun a z => z.elim .inr fun z => .inl (List.mem_append_left _ z)))⟩
        rcases h6.ow a (List.mem_append_left _ z) with u | u
        · exact nomatch u
        · obtain ⟨i, w⟩ := w
          obtain ⟨o, ho⟩ := s2.th i a w
          rw [u] at ho; cases ho
      cases q3 : C (genL .non dfl src (ds ++ ds2)) with
      | ok d fn =>
        rw [q3] at h
        intro v F' H' qv r h1 h2 h3 h4 h5 h6
        obtain ⟨s3, t3, tr3⟩ := fin h1 h3 h4 h5 h6
        exact h v F' H' fp2 qv s3 t3 tr3
      | ex c d fn =>
        rw [q3] at h
        intro dx v F' H' qv r h1 h2 h3 h4 h5 h6 hx
        obtain ⟨s3, t3, tr3⟩ := fin h1 h3 h4 h5 h6
        exact h dx v F' H' fp2 qv s3 t3 tr3 hx
      | no => rw [q3] at h; exact h.elim
theorem run_fnKS {pins : List (Addr × Obj)} {s : Shared} {Q : VK} {us ws : List Value} {vs zs : List V} {k n : Nat} {f : Addr} {fd : FuncData} {ps ks : List Str} {sp : Sp} {gW : List Value → List Value → List Value} {gV : List V → List V → List V} {CX : CXT} {E : XK} (FO : FnOk X.prog X.w X.K X.mg X.base CX k f fd ps sp) (hr : Room k X.A) (hb : KBn X.K fd ps n ks gW gV) (hx : PassesAt CX X σ E)
    (I : Inv X pins σ H s) (r : Vals vs us) (rz : Vals zs ws) (l1 : vs.length = n) (l2 : zs.length = ks.length) (h : sp (gV vs zs) H Q E) : wpAny (model X.prog X.w) X.A (call (.ref f) us (ks.zip ws)) (EP X pins σ Q) X.xe s := by
  have r2 := hb.rel r rz
  refine wpAny_call (codeAny_mono (FO.run X.A X.stack s H ⟨us, ks.zip ws⟩ (gW us ws) (gV vs zs) Q E hr I.env0 (hb.to s us ws I.kIn (r.length.symm.trans l1) (rz.length.symm.trans l2)) r2 h) fun r s' hq => ?_)
  cases r with
  | error e => exact hx pins H s e s' I hq
  | ok fl =>
    cases fl with
    | ret u => exact I.after hq
    | next => exact False.elim hq
    | brk => exact False.elim hq
    | cont => exact False.elim hq
theorem tZs_len : ∀ {ms : List ME} {H : Hp} {Q : List V → Hp → Prop}, tZs G W ms σ H Q → tZs G W ms σ H fun vs H1 => vs.length = ms.length ∧ Q vs H1
  | [], H, Q, h => ⟨rfl, h⟩
  | m :: ms, H, Q, h => by
    obtain ⟨F, fp, e, s, h⟩ := h
    refine ⟨F, fp, e, s, ?_⟩
    cases q : m e with
    | ex c d e1 => rw [q] at h; exact h
    | no => rw [q] at h; exact h
    | ok d e1 =>
      rw [q] at h
      exact fun v F1 H1 fp1 s1 r1 tr1 => tZs_imp (fun vs H2 z => ⟨congrArg (· + 1) z.1, z.2⟩) (tZs_len (h v F1 H1 fp1 s1 r1 tr1))
where tZs_imp : ∀ {ms : List ME} {H : Hp} {Q Q' : List V → Hp → Prop}, (∀ vs H1, Q vs H1 → Q' vs H1) → tZs G W ms σ H Q → tZs G W ms σ H Q'
  | [], H, Q, Q', i, h => i _ _ h
  | m :: ms, H, Q, Q', i, h => by
    obtain ⟨F, fp, e, s, h⟩ := h
    refine ⟨F, fp, e, s, ?_⟩
    cases q : m e with
    | ex c d e1 => rw [q] at h; exact h
    | no => rw [q] at h; exact h
    | ok d e1 =>
      rw [q] at h
      exact fun v F1 H1 fp1 s1 r1 tr1 => tZs_imp (fun vs H2 z => i _ _ z) (h v F1 H1 fp1 s1 r1 tr1)
/-- f(k = v, ..) -/
theorem se_callK0 {C : List D → RC} {mask : List Bool} {dfl : List D} {dvs : List V} {dus : List Value} {src : List KS} {ms : List ME} {k : Nat} {f : Addr} {fd : FuncData} {ps ks : List Str} {x : Str} (tk : Takes X W)
    (FO : FnOk X.prog X.w X.K X.mg X.base (L2.CX X.prog X.w) k f fd ps (Prom (gOf X g) mask C)) (hr : Room k X.A) (hg : Gl X x) (hm : X.mg x = some (.ref f)) (hk : PySem.W.keepIn X.K (.ref f) = true)
    (hb : KBn X.K fd ps 0 ks (fun us ws => genL .none dus src (us ++ ws)) fun vs zs => genL .non dvs src (vs ++ zs)) (hz : ∀ F H, ROs (gOf X g) F H [] dvs dfl) (hl : src.length = mask.length) (hn : ms.length = ks.length) (hkw : SKs X g W kws ms)
    (hall : (backToKw pos (keywordEach kws X.env)).all (·.1.isSome) = true) (hks : (backToKw pos (keywordEach kws X.env)).filterMap (·.1) = ks) (hdb : (x == ("__debug__" : Str)) = false)
    (hpl : ((backTo pos (starEach [] X.env)).any (·.1) || (backToKw pos (keywordEach kws X.env)).any (·.1.isNone)) = false) :
    SE X g W (.Call (.Name x p2) [] kws pos) (mCallK C dfl src ms) := by
  refine ⟨fun pins s σ H Q I h => ?_⟩
  have h := callK_plain (ms1 := []) (ms2 := ms) hl hz h
  refine wpAny_Call_Name_kw (ld_glob I hg hm ?_ hdb)
  refine PySem.W.callWith_KW0 (h₀ := X.base) I.ok.mod.kin hk hall ?_ hpl
  refine thn (hkw.run pos pins s σ H _ I (tZs_len h)) fun ws s2 ⟨zs, H2, I2, rz, l2, q2⟩ => ⟨I2.kIn, ?_⟩
  rw [hks]
  exact run_fnKS (us := []) (vs := []) FO hr hb (passAt tk σ) I2 .nil rz rfl (l2.trans hn) q2
/-- f(e, .., k = v, ..) -/
theorem se_callK {C : List D → RC} {mask : List Bool} {dfl : List D} {dvs : List V} {dus : List Value} {src : List KS} {ms1 ms : List ME} {k n : Nat} {f : Addr} {fd : FuncData} {ps ks : List Str} {x : Str} (tk : Takes X W)
    (FO : FnOk X.prog X.w X.K X.mg X.base (L2.CX X.prog X.w) k f fd ps (Prom (gOf X g) mask C)) (hr : Room k X.A) (hg : Gl X x) (hm : X.mg x = some (.ref f)) (hk : PySem.W.keepIn X.K (.ref f) = true)
    (hb : KBn X.K fd ps n ks (fun us ws => genL .none dus src (us ++ ws)) fun vs zs => genL .non dvs src (vs ++ zs)) (hz : ∀ F H, ROs (gOf X g) F H [] dvs dfl) (hl : src.length = mask.length) (hn1 : ms1.length = n) (hn : ms.length = ks.length) (ha : SZs X g W (a :: es) ms1) (hkw : SKs X g W kws ms)
    (hall : (backToKw pos (keywordEach kws X.env)).all (·.1.isSome) = true) (hks : (backToKw pos (keywordEach kws X.env)).filterMap (·.1) = ks) (hdb : (x == ("__debug__" : Str)) = false) (he : starEach (a :: es) X.env = (false, eval a X.env) :: starEach es X.env)
    (hpl : ((backTo pos (starEach (a :: es) X.env)).any (·.1) || (backToKw pos (keywordEach kws X.env)).any (·.1.isNone)) = false) :
    SE X g W (.Call (.Name x p2) (a :: es) kws pos) (mCallK C dfl src (ms1 ++ ms)) := by
  refine ⟨fun pins s σ H Q I h => ?_⟩
  have h := callK_plain (ms1 := ms1) (ms2 := ms) hl hz h
  refine wpAny_Call_Name_kw (ld_glob I hg hm ?_ hdb)
  refine PySem.W.callWith_KW (h₀ := X.base) I.ok.mod.kin hk hall (thn (ha.run pos pins s σ H _ I (tZs_len h)) fun us s1 ⟨vs, H1, I1, r, l1, q⟩ => ?_) hpl he
  refine thn (hkw.run pos pins s1 σ H1 _ I1 (tZs_len q)) fun ws s2 ⟨zs, H2, I2, rz, l2, q2⟩ => ⟨I2.kIn, ?_⟩
  rw [hks]
  exact run_fnKS FO hr hb (passAt tk σ) I2 r rz (l1.trans hn1) (l2.trans hn) q2
end
/-- a def without defaults, called by keywords -/
theorem kbn0 {K : PySem.W.Frag} {x qual : Str} {params : Arguments} {body : List Stmt} {scope : Scope} {kws : List (Str × V)} {f : Addr} {fd : FuncData} {ps ks : List Str} {n : Nat} {src : List KS} (Fd : FunD K x qual params body scope [] kws f fd)
    (h : ∀ (kV doc pm : Value) (an : Option Addr) (cdv ct : Value) (us ws : List Value), us.length = n → ws.length = ks.length → bindArgs (PySem.W.fnOf x qual params body scope .none kV doc pm an cdv ct) ⟨us, ks.zip ws⟩ = pure (ps.zip (genL .none [] src (us ++ ws)))) :
    KBn K fd ps n ks (fun us ws => genL .none [] src (us ++ ws)) fun vs zs => genL .non [] src (vs ++ zs) := by
  obtain ⟨oc, od, dV, kV, doc, pm, an, cdv, ct, osl, rfl, lk, hcd, hD, hK⟩ := Fd.ex
  rcases hD with ⟨_, rfl⟩ | ⟨e, _⟩
  · exact ⟨fun s us ws X l1 l2 => .of_eq (h kV doc pm an cdv ct us ws l1 l2), fun r1 r2 => gen_vals .nil (r1.append r2) src⟩
  · exact absurd rfl e
end EV

/-! EvR: the forms that a printed proof uses. -/
namespace EV
open PySem PySem.Spec PyProof.Rows L2
/-- within a def's body -/
structure Cf (X : Cx) (W : WX) (N : List Str) (sc : Scope) (fr : List Str) : Prop extends Cn X N sc fr where
  fnT : ∀ x, X.fn x = true
  tk : Takes X W
  po : PassesOwn (model X.prog X.w) X.A X.env X.xe
def locB (N : List Str) (sc : Scope) (i : Nat) (x : Str) : Bool := decide (N[i]? = some x) && (match sc.names.lookup x with
  | some .local => true
  | some .cell => true
  | _ => false)
def locL (N : List Str) (sc : Scope) (i : Nat) (x : Str) : Bool := decide (N[i]? = some x) && (match sc.names.lookup x with
  | some .local => true
  | _ => false)
def mFz (m : ME) : ME := fun e => match m e with
  | .ok d e1 => .ok (frz d) e1
  | .ex c d e1 => .ex c d e1
  | .no => .no
section
variable {X : Cx} {N : List Str} {sc : Scope} {fr : List Str} {g : GF} {G : GI} {W : WX} {L : List Nat} {a b c : Expr} {es : List Expr} {kws : List Keyword} {pos p2 p3 p4 p5 : Pos} {F H F1 H1 F' H' : Hp} {fp fp1 fp' : Nat → List Addr} {σ σ1 : L2.St} {e e' : DEnv} {m n t : ME} {ms ns : MS}
theorem locB_ok {i : Nat} {x : Str} (C : Cn X N sc fr) (h : locB N sc i x = true) : X.N[i]? = some x ∧ Loc X.env.scope x := by
  unfold locB at h
  rw [Bool.and_eq_true, decide_eq_true_eq] at h
  refine ⟨by rw [C.hN]; exact h.1, ?_⟩
  rw [C.hsc]
  have h2 := h.2
  split at h2
  · rename_i q; exact .inl q
  · rename_i q; exact .inr q
  · cases h2
theorem locL_ok {i : Nat} {x : Str} (C : Cn X N sc fr) (h : locL N sc i x = true) : X.N[i]? = some x ∧ X.env.scope.names.lookup x = some .local := by
  unfold locL at h
  rw [Bool.and_eq_true, decide_eq_true_eq] at h
  refine ⟨by rw [C.hN]; exact h.1, ?_⟩
  rw [C.hsc]
  have h2 := h.2
  split at h2
  · rename_i q; exact q
  · cases h2
theorem Cn.nd' (C : Cn X N sc fr) : X.N.Nodup := by rw [C.hN]; exact C.nd
theorem pg_f (C : Cf X W N sc fr) {i : Nat} {x : Str} (h : locB N sc i x = true) : PG X (.Name x pos) (gName i) := pg_name C.nd' (locB_ok C.toCn h).1 (locB_ok C.toCn h).2 (.inl (C.fnT x))
theorem pg_b (C : Cn X N sc fr) {i : Nat} {x : Str} (h : locL N sc i x = true) : PG X (.Name x pos) (gName i) := pg_name C.nd' (locL_ok C h).1 (.inl (locL_ok C h).2) (.inr (locL_ok C h).2)
theorem pg_bc (C : Cn X N sc fr) {i : Nat} {x : Str} (h : locB N sc i x = true) (hf : X.fn x = true) : PG X (.Name x pos) (gName i) := pg_name C.nd' (locB_ok C h).1 (locB_ok C h).2 (.inl hf)
theorem ss_setC {i : Nat} {x : Str} (C : Cf X W N sc fr) (hi : locB N sc i x = true) (h : SE X g W a m) (hL : i ∉ L) (hs : swapsWith a (some (.Name x p2)) pos.line X.env = pure false) : SS X g W L (.Assign [.Name x p2] a pos) (mAsg (.v i) m) :=
  ss_set C.nd' (locB_ok C.toCn hi).1 (locB_ok C.toCn hi).2 h hL hs (.inl (C.fnT x))
theorem ss_augC {k : Nat} {x : Str} {op : Operator} {f : Int → Int → Int} (C : Cf X W N sc fr) (hi : locB N sc k x = true) (h : SE X g W a m) (ho : PIp X op (ipI f)) (hL : k ∉ L) : SS X g W L (.AugAssign (.Name x p2) op a pos) (mAug k f m) :=
  ss_aug C.nd' (locB_ok C.toCn hi).1 (locB_ok C.toCn hi).2 h ho hL (.inl (C.fnT x))
/-- an environment of that scope -/
def envS (sc : Scope) : Env := { scope := sc, locals := 0, globals := 0, cells := [] }
theorem sw_env {ts : List Expr} {v : Expr} {env : Env} (h : env.scope = sc) : swappedStores ts v env = swappedStores ts v (envS sc) := by
  unfold swappedStores Env.blockKind Env.kindOf
  rw [h]
  rfl
theorem ss_parC {i j : Nat} {x y : Str} {px py pt : Pos} {kt k2 : Nat} {pt2 : Pos} {ms : List Ar} (C : Cf X W N sc fr) (hi : locL N sc i x = true) (hj : locL N sc j y = true) (hij : i ≠ j)
    (ha : SA X g W [a, b] ms) (hw : swappedStores [.Tuple [.Name x px, .Name y py] kt pt] (.Tuple [a, b] k2 pt2) (envS sc) = pure (some [x, y])) (hL : i ∉ L ∧ j ∉ L) : SS X g W L (.Assign [.Tuple [.Name x px, .Name y py] kt pt] (.Tuple [a, b] k2 pt2) pos) (mPar [i, j] ms) :=
  ss_par C.calm C.nd' (locL_ok C.toCn hi).1 (locL_ok C.toCn hj).1 hij (locL_ok C.toCn hi).2 (locL_ok C.toCn hj).2 ha ((sw_env C.hsc).trans hw) hL
theorem ss_par3C {i j l : Nat} {x y z : Str} {px py pz pt : Pos} {kt k2 : Nat} {pt2 : Pos} {ms : List Ar} (C : Cf X W N sc fr) (hi : locL N sc i x = true) (hj : locL N sc j y = true) (hl : locL N sc l z = true) (hij : i ≠ j) (hil : i ≠ l) (hjl : j ≠ l)
    (ha : SA X g W [a, b, c] ms) (hw : swappedStores [.Tuple [.Name x px, .Name y py, .Name z pz] kt pt] (.Tuple [a, b, c] k2 pt2) (envS sc) = pure (some [x, y, z])) (hL : i ∉ L ∧ j ∉ L ∧ l ∉ L) : SS X g W L (.Assign [.Tuple [.Name x px, .Name y py, .Name z pz] kt pt] (.Tuple [a, b, c] k2 pt2) pos) (mPar [i, j, l] ms) :=
  ss_par3 C.calm C.nd' (locL_ok C.toCn hi).1 (locL_ok C.toCn hj).1 (locL_ok C.toCn hl).1 hij hil hjl (locL_ok C.toCn hi).2 (locL_ok C.toCn hj).2 (locL_ok C.toCn hl).2 ha ((sw_env C.hsc).trans hw) hL
theorem ss_asgC {tg : Expr} {t : CT} {r : TG} (C : Cf X W N sc fr) (h : SE X g W a m) (hg : PG X tg r) (hk : GOk (gOf X g) L t r) (hs : swapsWithSole [tg] a pos.line X.env = pure false) (hw : swappedStores [tg] a (envS sc) = pure none)
    (h1 : (assignEach [tg] X.env).map (·.2) = [assign tg X.env]) : SS X g W L (.Assign [tg] a pos) (mAsg t m) := ss_asg h hg hk hs ((sw_env C.hsc).trans hw) h1
theorem se_fz (h : SE X g W a m) : SE X g W a (mFz m) := PE.imp h.z fun σ H Q h => by
  obtain ⟨F, fp, e, s, h⟩ := RdE.iff.mp h
  refine ⟨F, fp, e, s, ?_⟩
  unfold mFz at h
  cases q : m e with
  | ok d e1 =>
    rw [q] at h
    exact fun v F1 H1 fp1 s1 r1 tr1 => h v F1 H1 fp1 [] s1 (TO.z r1) tr1.nil
  | ex c d e1 => rw [q] at h; exact h
  | no => rw [q] at h; exact h
theorem st_bool (h : SW X g W a m) : ST X g W a m := h.pt
theorem lc_swap {elt : Expr} {gs : List Comprehension} {scope : Scope} {py : Pos} {y : Str} {l : Nat} {i : Nat} (C : Cf X W N sc fr) (hk : sc.kind = .function) (hy : locL N sc i y = true) (hl : (py.line == pos.line) = true)
    (ha : (scope.names.any fun (n, k) => n == y && (k == .local || k == .cell)) = false) : swapsWith (.ListComp elt gs scope pos) (some (.Name y py)) l X.env = pure true := sw_true (by rw [C.hsc]; exact hk) (locL_ok C.toCn hy).2 hl ha
theorem ss_setLcC {i : Nat} {y : Str} {py spos : Pos} {elt tg iter : Expr} {ifs : List Expr} {scope : Scope} {own' : List (Str × Nat)} {t : CT} {r : TG} {mi : MI} {mc me : ME} (C : Cf X W N sc fr) (hy : locL N sc i y = true) (hk0 : sc.kind = .function) (hl : (py.line == pos.line) = true)
    (hal : (scope.names.any fun (n, k) => n == y && (k == .local || k == .cell)) = false) (hL : i ∉ L) (hi : SI X g W tg iter mi) (ok : blkC N sc scope own' = true)
    (hg : ∀ (s : Shared) (H : Hp) (A : Addr) (cl : List (Str × Addr)) (fp : List Addr), Cn (X.blk s H scope (compEnvC scope cl A X.env) fp) N (relS scope sc) fr → PG (X.blk s H scope (compEnvC scope cl A X.env) fp) tg r) (hk : ∀ L, (∀ i, i ∈ L → i ∉ own'.map (·.2)) → GOk (gOf X g) L t r)
    (ht : ∀ (s : Shared) (H : Hp) (A : Addr) (cl : List (Str × Addr)) (fp : List Addr), Cn (X.blk s H scope (compEnvC scope cl A X.env) fp) N (relS scope sc) fr → PTs (X.blk s H scope (compEnvC scope cl A X.env) fp) ifs (RdT (gOf X g) W0 mc))
    (he : ∀ (s : Shared) (H : Hp) (A : Addr) (cl : List (Str × Addr)) (fp : List Addr), Cn (X.blk s H scope (compEnvC scope cl A X.env) fp) N (relS scope sc) fr → SE (X.blk s H scope (compEnvC scope cl A X.env) fp) g W0 elt me) (hs : ∀ x, foldedSetIterable iter X.env x = pure x) :
    SS X g W L (.Assign [.Name y py] (.ListComp elt [⟨tg, iter, ifs, 0⟩] scope pos) spos) (mAsg (.v i) (mLc (own'.map (·.2)) t mi mc me)) :=
  ss_setLc C.calm C.nd' (locL_ok C.toCn hy).1 (locL_ok C.toCn hy).2 (lc_swap C hk0 hy hl hal) hL hi (blkOk_by (by rw [C.hN, C.hsc]; exact ok)) (fun s H A cl fp => hg s H A cl fp (C.toCn.blk s H A cl fp)) hk (fun s H A cl fp => ht s H A cl fp (C.toCn.blk s H A cl fp)) (fun s H A cl fp => he s H A cl fp (C.toCn.blk s H A cl fp)) hs
theorem se_lcC {elt tg iter : Expr} {ifs : List Expr} {scope : Scope} {own' : List (Str × Nat)} {t : CT} {r : TG} {mi : MI} {mc me : ME} (C : Cn X N sc fr) (hi : SI X g W tg iter mi) (ok : blkC N sc scope own' = true)
    (hg : ∀ (s : Shared) (H : Hp) (A : Addr) (cl : List (Str × Addr)) (fp : List Addr), Cn (X.blk s H scope (compEnvC scope cl A X.env) fp) N (relS scope sc) fr → PG (X.blk s H scope (compEnvC scope cl A X.env) fp) tg r) (hk : ∀ L, (∀ i, i ∈ L → i ∉ own'.map (·.2)) → GOk (gOf X g) L t r)
    (ht : ∀ (s : Shared) (H : Hp) (A : Addr) (cl : List (Str × Addr)) (fp : List Addr), Cn (X.blk s H scope (compEnvC scope cl A X.env) fp) N (relS scope sc) fr → PTs (X.blk s H scope (compEnvC scope cl A X.env) fp) ifs (RdT (gOf X g) W0 mc))
    (he : ∀ (s : Shared) (H : Hp) (A : Addr) (cl : List (Str × Addr)) (fp : List Addr), Cn (X.blk s H scope (compEnvC scope cl A X.env) fp) N (relS scope sc) fr → SE (X.blk s H scope (compEnvC scope cl A X.env) fp) g W0 elt me) (hs : ∀ x, foldedSetIterable iter X.env x = pure x) :
    SE X g W (.ListComp elt [⟨tg, iter, ifs, 0⟩] scope pos) (mLc (own'.map (·.2)) t mi mc me) :=
  se_lc C.calm C.nd' hi (blkOk_by (by rw [C.hN, C.hsc]; exact ok)) (fun s H A cl fp => hg s H A cl fp (C.blk s H A cl fp)) hk (fun s H A cl fp => ht s H A cl fp (C.blk s H A cl fp)) (fun s H A cl fp => he s H A cl fp (C.blk s H A cl fp)) hs
theorem se_lc2C {elt tg iter tg1 iter1 : Expr} {ifs ifs1 : List Expr} {scope : Scope} {own' : List (Str × Nat)} {own1 : List Nat} {t t1 : CT} {r r1 : TG} {mi mi1 : MI} {mc mc1 me : ME} (C : Cn X N sc fr) (hi : SI X g W tg iter mi) (ok : blkC N sc scope own' = true) (hsub : ∀ i ∈ own1, i ∈ own'.map (·.2))
    (hg : ∀ (s : Shared) (H : Hp) (A : Addr) (cl : List (Str × Addr)) (fp : List Addr), Cn (X.blk s H scope (compEnvC scope cl A X.env) fp) N (relS scope sc) fr → PG (X.blk s H scope (compEnvC scope cl A X.env) fp) tg r) (hk : ∀ L, (∀ i, i ∈ L → i ∉ own'.map (·.2)) → GOk (gOf X g) L t r)
    (ht : ∀ (s : Shared) (H : Hp) (A : Addr) (cl : List (Str × Addr)) (fp : List Addr), Cn (X.blk s H scope (compEnvC scope cl A X.env) fp) N (relS scope sc) fr → PTs (X.blk s H scope (compEnvC scope cl A X.env) fp) ifs (RdT (gOf X g) W0 mc))
    (he : ∀ (s : Shared) (H : Hp) (A : Addr) (cl : List (Str × Addr)) (fp : List Addr), Cn (X.blk s H scope (compEnvC scope cl A X.env) fp) N (relS scope sc) fr → SE (X.blk s H scope (compEnvC scope cl A X.env) fp) g W0 elt me) (hs : ∀ x, foldedSetIterable iter X.env x = pure x)
    (hi1 : ∀ (s : Shared) (H : Hp) (A : Addr) (cl : List (Str × Addr)) (fp : List Addr), Cn (X.blk s H scope (compEnvC scope cl A X.env) fp) N (relS scope sc) fr → SI (X.blk s H scope (compEnvC scope cl A X.env) fp) g W0 tg1 iter1 mi1)
    (hg1 : ∀ (s : Shared) (H : Hp) (A : Addr) (cl : List (Str × Addr)) (fp : List Addr), Cn (X.blk s H scope (compEnvC scope cl A X.env) fp) N (relS scope sc) fr → PG (X.blk s H scope (compEnvC scope cl A X.env) fp) tg1 r1) (hk1 : ∀ L, (∀ i, i ∈ L → i ∉ own1) → GOk (gOf X g) L t1 r1)
    (ht1 : ∀ (s : Shared) (H : Hp) (A : Addr) (cl : List (Str × Addr)) (fp : List Addr), Cn (X.blk s H scope (compEnvC scope cl A X.env) fp) N (relS scope sc) fr → PTs (X.blk s H scope (compEnvC scope cl A X.env) fp) ifs1 (RdT (gOf X g) W0 mc1))
    (hs1 : ∀ env x, foldedSetIterable iter1 env x = pure x) :
    SE X g W (.ListComp elt [⟨tg, iter, ifs, 0⟩, ⟨tg1, iter1, ifs1, 0⟩] scope pos) (mLc2 (own'.map (·.2)) t mi mc own1 t1 mi1 mc1 me) :=
  se_lc2 C.calm C.nd' hi (blkOk_by (by rw [C.hN, C.hsc]; exact ok)) hsub (fun s H A cl fp => hg s H A cl fp (C.blk s H A cl fp)) hk (fun s H A cl fp => ht s H A cl fp (C.blk s H A cl fp)) (fun s H A cl fp => he s H A cl fp (C.blk s H A cl fp)) hs (fun s H A cl fp => hi1 s H A cl fp (C.blk s H A cl fp)) (fun s H A cl fp => hg1 s H A cl fp (C.blk s H A cl fp)) hk1 (fun s H A cl fp => ht1 s H A cl fp (C.blk s H A cl fp)) hs1
/-- targets by their shape -/
theorem gok_vb {i : Nat} {own' : List Nat} (h : decide (i ∈ own') = true) : ∀ L, (∀ j, j ∈ L → j ∉ own') → GOk G L (.v i) (gName i) := fun L hL => gok_v fun z => hL i z (of_decide_eq_true h)
end
/-- nothing is promised -/
theorem fn_no {P : Program} {w : World} {K : PySem.W.Frag} {mg : Str → Option Value} {base : Heap} {CX : CXT} {k : Nat} {f : Addr} {fd : FuncData} {ps : List Str} {G : GI} {mask : List Bool} (h : mask.length = ps.length) : FnOk P w K mg base CX k f fd ps (Prom G mask fun _ => .no) :=
  ⟨Prom.len h, fun _ _ _ _ _ _ _ _ _ _ _ _ _ ⟨_, _, _, _, _, _, _, _, z⟩ => z.elim⟩
section
variable {P : Program} {w : World} {K : PySem.W.Frag} {mg : Str → Option Value} {base : Heap} {x qual : Str} {params : Arguments} {body : List Stmt} {scope : Scope} {dvs : List V} {kws : List (Str × V)} {f : Addr} {fd : FuncData}
theorem fn_okC {N ps fr : List Str} {mask : List Bool} {k : Nat} {m : MS} {g : GF} (Fd : FunD K x qual params body scope dvs kws f fd) (S : FnScope N ps scope) (hm : mask.length = ps.length) (hn : mask.length ≤ N.length) (hfr : ∀ x ∈ fr, mg x = none)
    (hb : ∀ (X : Cx) (W : WX), X.prog = P → X.w = w → X.K = K → X.mg = mg → X.base = base → Room k X.A → Cf X W N scope fr → SSs X g W (lix 0 mask) body m) :
    FnOk P w K mg base (L2.CX P w) (k + 1) f fd ps (Prom ⟨g, K⟩ mask (callF N.length mask m)) :=
  fn_ok Fd S hm hn hfr fun cdv A outer s H E hr hc ht hp => hb _ _ rfl rfl rfl rfl rfl hr ⟨hc, fun _ => rfl, ht, hp⟩
theorem weakCX {C1 C2 : CXT} {k : Nat} {ps : List Str} {sp : Sp} (h : ∀ o H s E u s', C1 o H s E u s' → C2 o H s E u s') (Fo : FnOk P w K mg base C1 k f fd ps sp) : FnOk P w K mg base C2 k f fd ps sp :=
  ⟨Fo.len, fun A outer s H args us vs Q E hr he hb hv hs => codeAny_mono (Fo.run A outer s H args us vs Q E hr he hb hv hs) fun r s' hq => by
    cases r with
    | error e => exact h _ _ _ _ _ _ hq
    | ok fl => cases fl <;> exact hq⟩
end
end EV

/-! EvS: comparisons as tests. -/
namespace EV
open PySem PySem.Spec PyProof.Rows L2
section
variable {X : Cx} {N : List Str} {sc : Scope} {fr : List Str} {g : GF} {G : GI} {W : WX} {L : List Nat} {a b c : Expr} {es : List Expr} {pos p2 p3 p4 : Pos} {oa ob : Op} {m n t : ME} {σ : L2.St} {H : Hp}
theorem RdT.toE {Q : Bool → Hp → Prop} (h : RdT G W m σ H Q) : RdE G W m σ H fun x H1 => ∃ k, x = .bl k ∧ Q k H1 := by
  obtain ⟨F, fp, e, s, h⟩ := h
  refine RdE.iff.mpr ⟨F, fp, e, s, ?_⟩
  cases q : m e with
  | ok d e1 =>
    rw [q] at h
    cases d with
    | bl b =>
      intro v F' H' fp' p s' t' tr
      refine ⟨b, t'.r.bl_inv, h F' H' fp' s' (tr.drop fun _ z => .inl z)⟩
    | _ => exact h.elim
  | ex c d e1 => rw [q] at h; exact h
  | no => rw [q] at h; exact h
theorem stc {e : Expr} {t : TE} (h : PT X e (tTest t)) (i : ∀ σ H Q, RdE (gOf X g) W m σ H Q → t σ H Q) : ST X g W e m := PT.imp h fun σ H Q hq => i σ H _ (RdT.toE hq)
theorem st_lt (ha : SOp X g W a oa) (hb : SOp X g W b ob) : ST X g W (.Compare a [.Lt] [b] pos) (mOp2 (cmpD fun i j => decide (i < j)) oa ob) := stc (pt_cmpR op_lt ha hb (nomark _)) fun _ _ _ h => rd_op2 (fun _ _ _ _ _ _ _ _ s r1 r2 h k => hr_cmp s r1 r2 h k) h
theorem st_le (ha : SOp X g W a oa) (hb : SOp X g W b ob) : ST X g W (.Compare a [.LtE] [b] pos) (mOp2 (cmpD fun i j => decide (i ≤ j)) oa ob) := stc (pt_cmpR op_le ha hb (nomark _)) fun _ _ _ h => rd_op2 (fun _ _ _ _ _ _ _ _ s r1 r2 h k => hr_cmp s r1 r2 h k) h
theorem st_gt (ha : SOp X g W a oa) (hb : SOp X g W b ob) : ST X g W (.Compare a [.Gt] [b] pos) (mOp2 (cmpD fun i j => decide (j < i)) oa ob) := stc (pt_cmpR op_gt ha hb (nomark _)) fun _ _ _ h => rd_op2 (fun _ _ _ _ _ _ _ _ s r1 r2 h k => hr_cmp s r1 r2 h k) h
theorem st_ge (ha : SOp X g W a oa) (hb : SOp X g W b ob) : ST X g W (.Compare a [.GtE] [b] pos) (mOp2 (cmpD fun i j => decide (j ≤ i)) oa ob) := stc (pt_cmpR op_ge ha hb (nomark _)) fun _ _ _ h => rd_op2 (fun _ _ _ _ _ _ _ _ s r1 r2 h k => hr_cmp s r1 r2 h k) h
theorem st_eq (C : Cn X N sc fr) (ha : SOp X g W a oa) (hb : SOp X g W b ob) : ST X g W (.Compare a [.Eq] [b] pos) (mOp2 eqD oa ob) := stc (pt_cmpR (op_eqD C.hu64) ha hb (nomark _)) fun _ _ _ h => rd_op2 (fun _ _ _ _ _ _ _ _ s r1 r2 h k => hr_eq s r1 r2 h k) h
theorem st_ne (C : Cn X N sc fr) (ha : SOp X g W a oa) (hb : SOp X g W b ob) : ST X g W (.Compare a [.NotEq] [b] pos) (mOp2 neD oa ob) := stc (pt_cmpR (op_neD C.hu64) ha hb (nomark _)) fun _ _ _ h => rd_op2 (fun _ _ _ _ _ _ _ _ s r1 r2 h k => hr_ne s r1 r2 h k) h
theorem st_isN (ha : SOp X g W a oa) {j : Nat} : ST X g W (.Compare a [.Is] [.Constant .none j p2] pos) (mOp1 (fun d => some (.bl (isN d))) oa) := stc (pt_cmp (pc_isN ha) rfl) fun _ _ _ h => rd_op1 (r := fun x H Q => Q (.bl (decide (x = .non))) H) (fun _ _ _ _ _ _ s r1 h k => hr_isN s r1 h k) h
theorem st_notN (ha : SOp X g W a oa) {j : Nat} : ST X g W (.Compare a [.IsNot] [.Constant .none j p2] pos) (mOp1 (fun d => some (.bl (!isN d))) oa) := stc (pt_cmp (pc_notN ha) rfl) fun _ _ _ h => rd_op1 (r := fun x H Q => Q (.bl (!decide (x = .non))) H) (fun _ _ _ _ _ _ s r1 h k => hr_notN s r1 h k) h
theorem st_isB {k : Bool} (ha : SOp X g W a oa) {j : Nat} : ST X g W (.Compare a [.Is] [.Constant (.bool k) j p2] pos) (mOp1 (fun d => some (.bl (isB k d))) oa) := stc (pt_cmpR (op_isC (b := k)) ha pe_bl (nomark _)) fun _ _ _ h =>
  rd_op1 (r := fun x H Q => V.bl k = V.bl k ∧ Q (.bl (decide (x = .bl k))) H) (fun _ _ _ _ _ _ s r1 h kk => ⟨rfl, by injection h with h; subst h; rw [isB_rep r1]; exact kk.z s (.bl _)⟩) h
theorem st_notB {k : Bool} (ha : SOp X g W a oa) {j : Nat} : ST X g W (.Compare a [.IsNot] [.Constant (.bool k) j p2] pos) (mOp1 (fun d => some (.bl (!isB k d))) oa) := stc (pt_cmpR (op_isnotC (b := k)) ha pe_bl (nomark _)) fun _ _ _ h =>
  rd_op1 (r := fun x H Q => V.bl k = V.bl k ∧ Q (.bl (!decide (x = .bl k))) H) (fun _ _ _ _ _ _ s r1 h kk => ⟨rfl, by injection h with h; subst h; rw [isB_rep r1]; exact kk.z s (.bl _)⟩) h
theorem st_in (C : Cn X N sc fr) (ha : SOp X g W a oa) (hb : SOp X g W b ob) (hm : behindInMarks .In b = false) : ST X g W (.Compare a [.In] [b] pos) (mOp2 inB oa ob) :=
  stc (pt_cmpR ((op_inD C.hu65).or (op_in_seq.or (op_inDk C.hu1))) ha hb hm) fun _ _ _ h => rd_op2 (r := fun x y H Q => rInD X.K x y H Q ∨ rIn X.K false x y H Q ∨ ∃ a o, y = V.ref a ∧ DGet H a x o ∧ Q (V.bl o.isSome) H) (fun _ _ _ _ _ _ _ _ s r1 r2 h k => by
    obtain ⟨n, q, rfl⟩ := inB_some h
    have z := k.z s (.bl n)
    rcases hr_in s r1 r2 q with ⟨d, ds, h1, h2, h3, h4, h5⟩ | ⟨p, xs, h1, h2, h3, h4, h5⟩ | ⟨a, o, h1, h2, h3⟩
    · exact .inl ⟨d, ds, h1, h2, h3, h4, by rw [h5]; exact z⟩
    · exact .inr (.inl ⟨p, xs, h1, h2, h3, h4, by first | (rw [if_neg Bool.false_ne_true, h5]; exact z) | (rw [if_pos rfl, h5]; exact z)⟩)
    · exact .inr (.inr ⟨a, o, h1, h2, by rw [h3]; exact z⟩)) h
theorem st_notin (C : Cn X N sc fr) (ha : SOp X g W a oa) (hb : SOp X g W b ob) (hm : behindInMarks .NotIn b = false) : ST X g W (.Compare a [.NotIn] [b] pos) (mOp2 notinB oa ob) :=
  stc (pt_cmpR ((op_notInD C.hu65).or (op_notIn_seq.or (op_notinDk C.hu1))) ha hb hm) fun _ _ _ h => rd_op2 (r := fun x y H Q => rNotInD X.K x y H Q ∨ rIn X.K true x y H Q ∨ ∃ a o, y = V.ref a ∧ DGet H a x o ∧ Q (V.bl !o.isSome) H) (fun _ _ _ _ _ _ _ _ s r1 r2 h k => by
    obtain ⟨n, q, rfl⟩ := notinB_some h
    have z := k.z s (.bl !n)
    rcases hr_in s r1 r2 q with ⟨d, ds, h1, h2, h3, h4, h5⟩ | ⟨p, xs, h1, h2, h3, h4, h5⟩ | ⟨a, o, h1, h2, h3⟩
    · exact .inl ⟨d, ds, h1, h2, h3, h4, by rw [h5]; exact z⟩
    · exact .inr (.inl ⟨p, xs, h1, h2, h3, h4, by first | (rw [if_neg Bool.false_ne_true, h5]; exact z) | (rw [if_pos rfl, h5]; exact z)⟩)
    · exact .inr (.inr ⟨a, o, h1, h2, by rw [h3]; exact z⟩)) h
theorem sa_consT {m : ME} {ms : List Ar} (ha : SE X g W a m) (hr : SA X g W es ms) (hs : starEach (a :: es) X.env = (false, eval a X.env) :: starEach es X.env) : SA X g W (a :: es) (.t m :: ms) := sa_cons (m := .t m) ha hr hs
theorem sa_consL {j : Nat} {ms : List Ar} (ha : PE X a (tVar j)) (hr : SA X g W es ms) (hs : starEach (a :: es) X.env = (false, eval a X.env) :: starEach es X.env) : SA X g W (a :: es) (.l j :: ms) := sa_cons (m := .l j) ha hr hs
end
end EV

/-! EvT: the plain functions reckoned out. -/
namespace EV
open PySem PySem.Spec L2
section
variable {m n t : ME} {ms ns : MS} {e e1 : DEnv} {d : D} {oa ob : Op} {i k : Nat}
@[simp] theorem ap_seq : mSeq ms ns e = (ms e).seq ns := rfl
@[simp] theorem ap_expr : mExpr m e = (m e).toS fun _ e1 => .nx e1 := rfl
@[simp] theorem ap_ret : mRet m e = (m e).toS fun d e1 => .rt d e1 := rfl
@[simp] theorem ap_retN : mRetN e = .rt .non e := rfl
@[simp] theorem ap_asg : mAsg (.v i) m e = (m e).toS fun d e1 => .nx (e1.set i (some d)) := rfl
@[simp] theorem ap_asgT {ts : List CT} : mAsg (.t ts) m e = (m e).toS fun d e1 => match put (.t ts) d e1 with
  | some e2 => .nx e2
  | none => .no := rfl
@[simp] theorem ap_ifS : mIfS t ms ns e = match t e with
  | .ok (.bl true) e1 => ms e1
  | .ok (.bl false) e1 => ns e1
  | .ok _ _ => .no
  | .ex c d e1 => .ex c d e1
  | .no => .no := rfl
@[simp] theorem ap_if : mIf t m n e = match t e with
  | .ok (.bl true) e1 => m e1
  | .ok (.bl false) e1 => n e1
  | .ok _ _ => .no
  | .ex c d e1 => .ex c d e1
  | .no => .no := rfl
@[simp] theorem ap_op1 {f : D → Option D} : mOp1 f oa e = (oa.run e).bind fun p e1 => p.see e1 fun d e2 => RE.of (f d) e2 := rfl
@[simp] theorem ap_op2 {f : D → D → Option D} : mOp2 f oa ob e = (oa.run e).bind fun p e1 => (ob.run e1).bind fun q e2 => p.see e2 fun d e3 => q.see e3 fun d2 e4 => RE.of (f d d2) e4 := rfl
@[simp] theorem ap_tru : mTru oa e = (oa.run e).bind fun p e1 => p.see e1 fun d e2 => RE.of ((truD d).map .bl) e2 := rfl
@[simp] theorem ap_c : mC d e = .ok d e := rfl
@[simp] theorem ap_v : mV k e = match e[k]? with
  | some (some d) => if fz d = true then .ok d e else .ok (frz d) (e.set k (some (frz d)))
  | _ => .no := rfl
@[simp] theorem ap_mv : mMv k e = match e[k]? with
  | some (some d) => .ok d (e.set k none)
  | _ => .no := rfl
@[simp] theorem ap_fz : mFz m e = match m e with
  | .ok d e1 => .ok (frz d) e1
  | .ex c d e1 => .ex c d e1
  | .no => .no := rfl
@[simp] theorem ap_runV : (Op.v k).run e = match e[k]? with
  | some (some _) => .ok (.v k) e
  | _ => .no := rfl
@[simp] theorem ap_runE : (Op.e m).run e = match m e with
  | .ok x e1 => .ok (.d (frz x)) e1
  | .ex c x e1 => .ex c x e1
  | .no => .no := rfl
@[simp] theorem ap_seeD {f : D → DEnv → RE} : (PV.d d).see e f = f d e := rfl
@[simp] theorem ap_seeV {f : D → DEnv → RE} : (PV.v k).see e f = match e[k]? with
  | some (some d) => if vwOk d = true then f (vw d) e else f (frz d) (e.set k (some (frz d)))
  | _ => .no := rfl
@[simp] theorem ap_ofS : RE.of (some d) e = .ok d e := rfl
@[simp] theorem ap_ofN : RE.of none e = .no := rfl
@[simp] theorem frz_non : frz .non = .non := rfl
@[simp] theorem frz_bl {b : Bool} : frz (.bl b) = .bl b := rfl
@[simp] theorem frz_int {b : Int} : frz (.int b) = .int b := rfl
@[simp] theorem frz_str {b : Str} : frz (.str b) = .str b := rfl
@[simp] theorem frz_tup {b : List D} : frz (.tup b) = .tup (frzs b) := rfl
@[simp] theorem frz_lst {o : Bool} {b : List D} : frz (.lst o b) = .lst false (frzs b) := rfl
@[simp] theorem frz_scr {b : List Int} : frz (.scr b) = .scr b := rfl
@[simp] theorem frzs_nil : frzs [] = [] := rfl
@[simp] theorem frzs_cons {b : List D} : frzs (d :: b) = frz d :: frzs b := rfl
@[simp] theorem fz_non : fz .non = true := rfl
@[simp] theorem fz_bl {b : Bool} : fz (.bl b) = true := rfl
@[simp] theorem fz_int {b : Int} : fz (.int b) = true := rfl
@[simp] theorem fz_str {b : Str} : fz (.str b) = true := rfl
@[simp] theorem fz_tup {b : List D} : fz (.tup b) = fzs b := rfl
@[simp] theorem fz_lst {o : Bool} {b : List D} : fz (.lst o b) = (!o && fzs b) := by cases o <;> rfl
@[simp] theorem fz_scr {b : List Int} : fz (.scr b) = true := rfl
@[simp] theorem fzs_nil : fzs [] = true := rfl
@[simp] theorem fzs_cons {b : List D} : fzs (d :: b) = (fz d && fzs b) := rfl
@[simp] theorem vw_non : vw .non = .non := rfl
@[simp] theorem vw_bl {b : Bool} : vw (.bl b) = .bl b := rfl
@[simp] theorem vw_int {b : Int} : vw (.int b) = .int b := rfl
@[simp] theorem vw_str {b : Str} : vw (.str b) = .str b := rfl
@[simp] theorem vw_tup {b : List D} : vw (.tup b) = .tup b := rfl
@[simp] theorem vw_lst {o : Bool} {b : List D} : vw (.lst o b) = .lst false b := rfl
@[simp] theorem vw_scr {b : List Int} : vw (.scr b) = .scr b := rfl
@[simp] theorem vw_dk {o : Bool} {b : List (Key × D)} : vw (.dk o b) = .dk false b := rfl
@[simp] theorem vw_dt {o : Bool} {b : List (List Key × D)} : vw (.dt o b) = .dt false b := rfl
@[simp] theorem vwOk_non : vwOk .non = true := rfl
@[simp] theorem vwOk_bl {b : Bool} : vwOk (.bl b) = true := rfl
@[simp] theorem vwOk_int {b : Int} : vwOk (.int b) = true := rfl
@[simp] theorem vwOk_str {b : Str} : vwOk (.str b) = true := rfl
@[simp] theorem vwOk_tup {b : List D} : vwOk (.tup b) = fzs b := rfl
@[simp] theorem vwOk_lst {o : Bool} {b : List D} : vwOk (.lst o b) = fzs b := rfl
@[simp] theorem vwOk_scr {b : List Int} : vwOk (.scr b) = true := rfl
@[simp] theorem vwOk_dk {o : Bool} {b : List (Key × D)} : vwOk (.dk o b) = true := rfl
@[simp] theorem vwOk_dt {o : Bool} {b : List (List Key × D)} : vwOk (.dt o b) = true := rfl
@[simp] theorem ad_int {a b : Int} : addD (.int a) (.int b) = some (.int (a + b)) := rfl
@[simp] theorem sb_int {a b : Int} : subD (.int a) (.int b) = some (.int (a - b)) := rfl
@[simp] theorem cm_int {f : Int → Int → Bool} {a b : Int} : cmpD f (.int a) (.int b) = some (.bl (f a b)) := rfl
theorem md_int {a b : Int} (h : 0 < b) : modD (.int a) (.int b) = some (.int (a % b)) := by
  show (if 0 < b then some (D.int (a % b)) else _) = _
  rw [if_pos h]
@[simp] theorem int_int {a : Int} : intD (.int a) = some (.int a) := rfl
@[simp] theorem abs_int {a : Int} : absD (.int a) = some (.int (if a < 0 then -a else a)) := rfl
@[simp] theorem len_tup {b : List D} : lenD (.tup b) = some (.int b.length) := rfl
@[simp] theorem len_lst {o : Bool} {b : List D} : lenD (.lst o b) = some (.int b.length) := rfl
@[simp] theorem len_scr {b : List Int} : lenD (.scr b) = some (.int b.length) := rfl
@[simp] theorem ix_tup {b : List D} {j : Int} : ixD (.tup b) (.int j) = atI b j := rfl
@[simp] theorem ix_lst {o : Bool} {b : List D} {j : Int} : ixD (.lst o b) (.int j) = atI b j := rfl
@[simp] theorem ix_scr {b : List Int} {j : Int} : ixD (.scr b) (.int j) = (atI b j).map .int := rfl
@[simp] theorem isN_non : isN .non = true := rfl
@[simp] theorem isN_bl {b : Bool} : isN (.bl b) = false := rfl
@[simp] theorem isN_int {b : Int} : isN (.int b) = false := rfl
@[simp] theorem isN_str {b : Str} : isN (.str b) = false := rfl
@[simp] theorem isN_tup {b : List D} : isN (.tup b) = false := rfl
@[simp] theorem isN_lst {o : Bool} {b : List D} : isN (.lst o b) = false := rfl
@[simp] theorem tru_bl {b : Bool} : truD (.bl b) = some b := rfl
@[simp] theorem tup_tup {b : List D} : tupleD (.tup b) = some (.tup b) := rfl
@[simp] theorem lst_tup {b : List D} : listD (.tup b) = some (.lst true b) := rfl
@[simp] theorem mx2_int {a b : Int} : max2D (.int a) (.int b) = some (.int (if b > a then b else a)) := rfl
@[simp] theorem mn2_int {a b : Int} : min2D (.int a) (.int b) = some (.int (if b < a then b else a)) := rfl
theorem mul_int {a b : Int} (h : mulOk a b = true) : mulD (.int a) (.int b) = some (.int (a * b)) := by
  show (if mulOk a b then some (D.int (a * b)) else none) = _
  rw [if_pos h]
theorem mulOk_r {a b : Int} (h : Nat.ble b.natAbs 18446744073709551615 = true) : mulOk a b = true := by
  unfold mulOk
  rw [h]
  simp
theorem mulOk_l {a b : Int} (h : Nat.ble a.natAbs 18446744073709551615 = true) : mulOk a b = true := by
  unfold mulOk
  rw [h]
  rfl
theorem div_int {a b : Int} (h0 : 0 < b) (h : divOk b = true) : fdivD (.int a) (.int b) = some (.int (a / b)) := by
  show (if 0 < b then (if divOk b = true then some (D.int (a / b)) else none) else _) = _
  rw [if_pos h0, if_pos h]
theorem divOk_s {b : Int} (h0 : 0 < b) (h : b < 1073741824) : divOk b = true := by
  unfold divOk
  simp only [Bool.or_eq_true, decide_eq_true_eq]
  left; omega
/-! ### what is written, what is passed -/
@[simp] theorem ap_set : mSet k oa m e = (m e).toS fun d e1 => match e1[k]? with
  | some (some _) => match oa.run e1 with
    | .ok p e2 => match p.see e2 (fun di e3 => match e3[k]? with
      | some (some d0) => match setD d0 di d with
        | some d1 => .ok .non (e3.set k (some d1))
        | none => .no
      | _ => .no) with
      | .ok _ e4 => .nx e4
      | _ => .no
    | .ex c d e2 => .ex c d e2
    | .no => .no
  | _ => .no := rfl
@[simp] theorem ap_app : mApp k m e = match e[k]? with
  | some (some (.lst true _)) => (m e).bind fun d e1 => match e1[k]? with
    | some (some (.lst true xs)) => if xs.length < LIM then .ok .non (e1.set k (some (.lst true (xs ++ [d])))) else .no
    | _ => .no
  | _ => .no := rfl
@[simp] theorem REb_ok {f : D → DEnv → RE} : (RE.ok d e).bind f = f d e := rfl
@[simp] theorem REb_ex {c : Nat} {f : D → DEnv → RE} : (RE.ex c d e).bind f = .ex c d e := rfl
@[simp] theorem REb_no {f : D → DEnv → RE} : RE.no.bind f = .no := rfl
@[simp] theorem mA_nil : mA [] e = .ok [] e := rfl
@[simp] theorem mA_t {r : List Ar} : mA (.t m :: r) e = match m e with
    | .ok d e1 => (mA r e1).cons (.t d)
    | .ex c d e1 => .ex c d e1
    | .no => .no := rfl
@[simp] theorem mA_l {j : Nat} {r : List Ar} : mA (.l j :: r) e = match e[j]? with
    | some (some _) => (mA r e).cons (.l j)
    | _ => .no := rfl
@[simp] theorem RAc_ok {a : PA1} {as : List PA1} : (RA.ok as e).cons a = .ok (a :: as) e := rfl
@[simp] theorem RAf_ok {as : List PA1} {f : List D → DEnv → RE} : (RA.ok as e).fin f = match allT as with
    | some ds => if ds.length ≤ LIM then f ds e else .no
    | none => .no := rfl
@[simp] theorem allT_nil : allT [] = some [] := rfl
@[simp] theorem allT_t {as : List PA1} : allT (.t d :: as) = (allT as).map (d :: ·) := rfl
@[simp] theorem ap_tup {as : List Ar} : mTup as e = (mA as e).fin fun ds e1 => .ok (.tup ds) e1 := rfl
@[simp] theorem ap_lst {as : List Ar} : mLst as e = (mA as e).fin fun ds e1 => .ok (.lst true ds) e1 := rfl
@[simp] theorem effD_nil : effD e [] = some [] := rfl
@[simp] theorem effD_t {as : List PA1} : effD e (.t d :: as) = (effD e as).map (d :: ·) := rfl
@[simp] theorem effD_l {j : Nat} {as : List PA1} : effD e (.l j :: as) = match e[j]? with
  | some (some d) => (effD e as).map (d :: ·)
  | _ => none := rfl
@[simp] theorem lents_nil : lents [] = [] := rfl
@[simp] theorem lents_t {as : List PA1} : lents (.t d :: as) = lents as := rfl
@[simp] theorem lents_l {j : Nat} {as : List PA1} : lents (.l j :: as) = j :: lents as := rfl
@[simp] theorem minus_nil : minus [] e = e := rfl
@[simp] theorem minus_t {as : List PA1} : minus (.t d :: as) e = minus as e := rfl
@[simp] theorem minus_l {j : Nat} {as : List PA1} : minus (.l j :: as) e = minus as (e.set j none) := rfl
@[simp] theorem bk_nil : bk [] [] [] e = some e := rfl
@[simp] theorem bk_l {ma : List Bool} {j : Nat} {as : List PA1} {fn : List D} : bk (true :: ma) (.l j :: as) (d :: fn) e = bk ma as fn (e.set j (some d)) := rfl
@[simp] theorem bk_t {ma : List Bool} {d1 : D} {as : List PA1} {fn : List D} : bk (true :: ma) (.t d1 :: as) (d :: fn) e = bk ma as fn e := rfl
@[simp] theorem bk_f {ma : List Bool} {d1 : D} {as : List PA1} {fn : List D} : bk (false :: ma) (.t d1 :: as) fn e = bk ma as fn e := rfl
@[simp] theorem ap_call {C : List D → RC} {ma : List Bool} {dfl : List D} {as : List Ar} : mCall C ma dfl as e = match mA as e with
  | .ok as e1 => match effD e1 as with
    | some ds => if (lents as).Nodup ∧ (as.length + dfl.length = ma.length) then match C (ds ++ dfl) with
      | .ok d fin => match bk ma (as ++ dfl.map .t) fin (minus as e1) with
        | some e2 => .ok d e2
        | none => .no
      | .ex c d fin => match bk ma (as ++ dfl.map .t) fin (minus as e1) with
        | some e2 => .ex c d e2
        | none => .no
      | .no => .no
      else .no
    | none => .no
  | .ex c d e1 => .ex c d e1
  | .no => .no := rfl
@[simp] theorem fins_nil : fins [] e = some [] := by cases e <;> rfl
@[simp] theorem fins_t {ma : List Bool} : fins (true :: ma) (some d :: e) = (fins ma e).map (d :: ·) := rfl
@[simp] theorem fins_f {ma : List Bool} : fins (false :: ma) e = fins ma e.tail := by cases e <;> rfl
@[simp] theorem ap_par {is : List Nat} {as : List Ar} : mPar is as e = match mA as e with
  | .ok as e1 => match allT as with
    | some ds => match puts (is.map CT.v) ds e1 with
      | some e2 => .nx e2
      | none => .no
    | none => .no
  | .ex c d e1 => .ex c d e1
  | .no => .no := rfl
@[simp] theorem put_v : put (.v i) d e = some (e.set i (some d)) := rfl
@[simp] theorem put_t {ts : List CT} {ds : List D} : put (.t ts) (.tup ds) e = puts ts ds e := rfl
@[simp] theorem puts_nil : puts [] [] e = some e := rfl
@[simp] theorem puts_cons {t : CT} {ts : List CT} {ds : List D} : puts (t :: ts) (d :: ds) e = (put t d e).bind fun e1 => puts ts ds e1 := rfl
@[simp] theorem set_lst {xs : List D} {j : Int} : setD (.lst true xs) (.int j) d = (ixN xs.length j).map fun j => .lst true (xs.set j d) := rfl
theorem callF_ok {N : Nat} {ma : List Bool} {b : MS} {ds : List D} (h : ds.length = ma.length ∧ ma.length ≤ N) : callF N ma b ds = match b (ds.map some ++ List.replicate (N - ma.length) none) with
    | .nx e => match fins ma e with
      | some f => .ok .non f
      | none => .no
    | .rt d e => match fins ma e with
      | some f => .ok d f
      | none => .no
    | .ex c d e => match fins ma e with
      | some f => .ex c d f
      | none => .no
    | _ => .no := by
  unfold callF
  rw [if_pos h]
  try rfl
@[simp] theorem LIM_is : LIM = 1000000 := rfl
@[simp] theorem RS_seq_no {f : DEnv → RS} : RS.no.seq f = .no := rfl
@[simp] theorem ap_for {Ls : List Nat} {tg : CT} {mi : MI} : mFor Ls tg mi ms e = match mi e with
  | .ok ds l e1 => if lkIn l Ls = true then (forL tg ms ds e1).unlk l else .no
  | .ex c d e1 => .ex c d e1
  | .no => .no := rfl
@[simp] theorem ap_while : mWhile t ms e = whileN t ms FUEL e := rfl
@[simp] theorem ap_lc {own : List Nat} {tg : CT} {mi : MI} : mLc own tg mi m n e = match mi e with
  | .ok ds l e1 => RE.unlk l (match lcL own tg m n ds [] (wipeE own e1) with
    | .ok acc e2 => .ok (.lst true acc) (backE e1 own e2)
    | .no => .no)
  | .ex c d e1 => .ex c d e1
  | .no => .no := rfl
@[simp] theorem ap_lc2 {own own1 : List Nat} {tg tg1 : CT} {mi mi1 : MI} : mLc2 own tg mi m own1 tg1 mi1 n t e = match mi e with
  | .ok ds l e1 => RE.unlk l (match lcL2 own tg m own1 tg1 mi1 n t ds [] (wipeE own e1) with
    | .ok acc e2 => .ok (.lst true acc) (backE e1 own e2)
    | .no => .no)
  | .ex c d e1 => .ex c d e1
  | .no => .no := rfl
@[simp] theorem ap_it : mIt m e = match m e with
  | .ok d e1 => match itemsD (frz d) with
    | some ds => .ok ds none e1
    | none => .no
  | .ex c d e1 => .ex c d e1
  | .no => .no := rfl
@[simp] theorem ap_itV : mItV k e = match e[k]? with
  | some (some (.lst true ds)) => if fzs ds = true then .ok ds (some (k, .lst true ds)) (e.set k none) else .no
  | some (some d) => match itemsD (frz d) with
    | some ds => if fz d = true then .ok ds none e else .no
    | none => .no
  | _ => .no := rfl
@[simp] theorem items_tup {ds : List D} : itemsD (.tup ds) = some ds := rfl
@[simp] theorem items_lst {o : Bool} {ds : List D} : itemsD (.lst o ds) = some ds := rfl
@[simp] theorem items_scr {ds : List Int} : itemsD (.scr ds) = some (ds.map .int) := rfl
@[simp] theorem ap_rg1 : mRg1 m e = match m e with
  | .ok (.int j) e1 => if rngOk j = true then .ok (rangeD 0 j) none e1 else .no
  | .ok _ _ => .no
  | .ex c d e1 => .ex c d e1
  | .no => .no := rfl
@[simp] theorem lk_none {Ls : List Nat} : lkIn none Ls = true := rfl
@[simp] theorem lk_some {Ls : List Nat} {j : Nat} : lkIn (some (j, d)) Ls = decide (j ∈ Ls) := rfl
@[simp] theorem RSu_none {r : RS} : r.unlk none = r := by cases r <;> rfl
@[simp] theorem REu_none {r : RE} : r.unlk none = r := by cases r <;> rfl
@[simp] theorem REu_ok {j : Nat} {d1 : D} : (RE.ok d e).unlk (some (j, d1)) = .ok d (e.set j (some d1)) := rfl
@[simp] theorem RSu_nx {j : Nat} {d1 : D} : (RS.nx e).unlk (some (j, d1)) = .nx (e.set j (some d1)) := rfl
@[simp] theorem RSu_rt {j : Nat} {d1 : D} : (RS.rt d e).unlk (some (j, d1)) = .rt d (e.set j (some d1)) := rfl
@[simp] theorem wipe_nil : wipeE [] e = e := rfl
@[simp] theorem wipe_cons {is : List Nat} : wipeE (i :: is) e = (wipeE is e).set i none := rfl
@[simp] theorem back_nil : backE e1 [] e = e := rfl
@[simp] theorem back_cons {is : List Nat} : backE e1 (i :: is) e = match e1[i]? with
    | some (some d) => if fz d = true then (backE e1 is e).set i (some d) else backE e1 is e
    | _ => backE e1 is e := rfl
@[simp] theorem ap_true : mTrue e = .ok (.bl true) e := rfl
@[simp] theorem rg_len {lo hi : Int} : (rangeD lo hi).length = (hi - lo).toNat := by
  unfold rangeD
  rw [List.length_map, List.length_range]
theorem rg_get {lo hi : Int} {k : Nat} {d : D} (h : (rangeD lo hi)[k]? = some d) : d = .int (lo + (k : Nat)) ∧ k < (hi - lo).toNat := by
  unfold rangeD at h
  rw [List.getElem?_map] at h
  by_cases hk : k < (hi - lo).toNat
  · rw [List.getElem?_range hk] at h
    injection h with h
    exact ⟨h.symm, hk⟩
  · rw [List.getElem?_eq_none (by simpa using hk)] at h; cases h
theorem rngOk_s {j : Int} (h1 : -1000000000 < j) (h2 : j < 1000000000) : rngOk j = true := by
  unfold rngOk
  exact Nat.ble_eq_true_of_le (by omega)
@[simp] theorem eq_int {a b : Int} : eqD (.int a) (.int b) = some (.bl (a == b)) := rfl
@[simp] theorem ne_int {a b : Int} : neD (.int a) (.int b) = some (.bl (!(a == b))) := rfl
@[simp] theorem isV_bl {b : Bool} : mAnd.isV (.bl b) = true := rfl
@[simp] theorem isV_non : mAnd.isV .non = true := rfl
@[simp] theorem isV_int {b : Int} : mAnd.isV (.int b) = true := rfl
@[simp] theorem ap_and : mAnd oa n e = match oa.run e with
  | .ok p e1 => p.see e1 fun d e2 => match truD d with
    | some true => n e2
    | some false => if mAnd.isV d = true then .ok d e2 else .no
    | none => .no
  | .ex c d e1 => .ex c d e1
  | .no => .no := rfl
@[simp] theorem ap_or : mOr oa n e = match oa.run e with
  | .ok p e1 => p.see e1 fun d e2 => match truD d with
    | some true => if mAnd.isV d = true then .ok d e2 else .no
    | some false => n e2
    | none => .no
  | .ex c d e1 => .ex c d e1
  | .no => .no := rfl
@[simp] theorem ap_tnot : mTNot m e = match m e with
  | .ok (.bl b) e1 => .ok (.bl (!b)) e1
  | .ok _ _ => .no
  | .ex c d e1 => .ex c d e1
  | .no => .no := rfl
@[simp] theorem ap_tand : mTAnd m n e = match m e with
  | .ok (.bl true) e1 => n e1
  | .ok (.bl false) e1 => .ok (.bl false) e1
  | .ok _ _ => .no
  | .ex c d e1 => .ex c d e1
  | .no => .no := rfl
@[simp] theorem ap_tor : mTOr m n e = match m e with
  | .ok (.bl true) e1 => .ok (.bl true) e1
  | .ok (.bl false) e1 => n e1
  | .ok _ _ => .no
  | .ex c d e1 => .ex c d e1
  | .no => .no := rfl
@[simp] theorem ap_not : mNot oa e = (oa.run e).bind fun p e1 => p.see e1 fun d e2 => RE.of ((truD d).map fun b => .bl (!b)) e2 := rfl
@[simp] theorem ap_zip2 : mZip2 m n e = match m e with
  | .ok d1 e1 => match n e1 with
    | .ok d2 e2 => match zipD (frz d1) (frz d2) with
      | some ds => .ok ds none e2
      | none => .no
    | .ex c d e2 => .ex c d e2
    | .no => .no
  | .ex c d e1 => .ex c d e1
  | .no => .no := rfl
@[simp] theorem zip_tup {xs ys : List D} : zipD (.tup xs) (.tup ys) = some (List.zipWith (fun x y => .tup [x, y]) xs ys) := rfl
@[simp] theorem is_tup {ds : List D} : isiD .tuple (.tup ds) = some true := rfl
@[simp] theorem is_tup_non : isiD .tuple .non = some false := rfl
@[simp] theorem is_tup_int {a : Int} : isiD .tuple (.int a) = some false := rfl
@[simp] theorem is_tup_bl {a : Bool} : isiD .tuple (.bl a) = some false := rfl
@[simp] theorem is_tup_str {a : Str} : isiD .tuple (.str a) = some false := rfl
@[simp] theorem is_tup_lst {o : Bool} {a : List D} : isiD .tuple (.lst o a) = some false := rfl
@[simp] theorem is_int_int {a : Int} : isiD .int (.int a) = some true := rfl
@[simp] theorem is_int_bl {a : Bool} : isiD .int (.bl a) = some true := rfl
@[simp] theorem is_int_str {a : Str} : isiD .int (.str a) = some false := rfl
@[simp] theorem is_int_non : isiD .int .non = some false := rfl
@[simp] theorem is_bool_int {a : Int} : isiD .bool (.int a) = some false := rfl
@[simp] theorem is_bool_bl {a : Bool} : isiD .bool (.bl a) = some true := rfl
@[simp] theorem is_str_str {a : Str} : isiD .str (.str a) = some true := rfl
@[simp] theorem isB_int {b : Bool} {a : Int} : isB b (.int a) = false := rfl
@[simp] theorem isB_bl {b a : Bool} : isB b (.bl a) = (a == b) := rfl
@[simp] theorem isB_str {b : Bool} {a : Str} : isB b (.str a) = false := rfl
@[simp] theorem isB_non {b : Bool} : isB b .non = false := rfl
/-- plain data of so many levels: tuples, whole numbers, None -/
def plD : Nat → D → Bool
  | _, .non => true
  | _, .int _ => true
  | n + 1, .tup ds => ds.all (plD n)
  | _, _ => false
theorem plD_fz : ∀ (n : Nat) {d : D}, plD n d = true → fz d = true
  | n, .non, _ => rfl
  | n, .int _, _ => rfl
  | 0, .tup ds, h => by simp [plD] at h
  | n + 1, .tup ds, h => by
    have h : ds.all (plD n) = true := h
    show fzs ds = true
    rw [fzs_all, List.all_eq_true]
    exact fun d hd => plD_fz n (List.all_eq_true.mp h d hd)
  | n, .bl _, h => by cases n <;> simp [plD] at h
  | n, .str _, h => by cases n <;> simp [plD] at h
  | n, .lst _ _, h => by cases n <;> simp [plD] at h
  | n, .scr _, h => by cases n <;> simp [plD] at h
  | n, .dk _ _, h => by cases n <;> simp [plD] at h
  | n, .dt _ _, h => by cases n <;> simp [plD] at h
  | n, .fn _, h => by cases n <;> simp [plD] at h
/-! ### loops -/
/-- what one turn asks -/
def stP (N : DEnv → Prop) (R : RS → Prop) : RS → Prop
  | .nx e => N e
  | .ct e => N e
  | .bk e => R (.nx e)
  | .rt d e => R (.rt d e)
  | .ex c d e => R (.ex c d e)
  | .no => False
@[simp] theorem stP_nx {N : DEnv → Prop} {R : RS → Prop} : stP N R (.nx e) = N e := rfl
@[simp] theorem stP_ct {N : DEnv → Prop} {R : RS → Prop} : stP N R (.ct e) = N e := rfl
@[simp] theorem stP_bk {N : DEnv → Prop} {R : RS → Prop} : stP N R (.bk e) = R (.nx e) := rfl
@[simp] theorem stP_rt {N : DEnv → Prop} {R : RS → Prop} : stP N R (.rt d e) = R (.rt d e) := rfl
@[simp] theorem stP_ex {N : DEnv → Prop} {R : RS → Prop} {c : Nat} : stP N R (.ex c d e) = R (.ex c d e) := rfl
@[simp] theorem stP_no {N : DEnv → Prop} {R : RS → Prop} : stP N R .no = False := rfl
def stO (N : DEnv → Prop) : Option DEnv → Prop
  | some e => N e
  | none => False
@[simp] theorem stO_some {N : DEnv → Prop} : stO N (some e) = N e := rfl
@[simp] theorem stO_none {N : DEnv → Prop} : stO N none = False := rfl
def stE (N : D → DEnv → Prop) : RE → Prop
  | .ok d e => N d e
  | _ => False
@[simp] theorem stE_ok {N : D → DEnv → Prop} : stE N (.ok d e) = N d e := rfl
@[simp] theorem stE_no {N : D → DEnv → Prop} : stE N .no = False := rfl
def stB (N : Bool → DEnv → Prop) : RE → Prop
  | .ok (.bl b) e => N b e
  | _ => False
@[simp] theorem stB_ok {N : Bool → DEnv → Prop} {b : Bool} : stB N (.ok (.bl b) e) = N b e := rfl
@[simp] theorem stB_no {N : Bool → DEnv → Prop} : stB N .no = False := rfl
theorem forL_rule {tg : CT} {m : MS} (R : RS → Prop) : ∀ {ds : List D} (I : Nat → DEnv → Prop) {e : DEnv}, I 0 e →
    (∀ k d e, ds[k]? = some d → I k e → stO (fun e1 => stP (I (k + 1)) R (m e1)) (put tg d e)) →
    (∀ e, I ds.length e → R (.nx e)) → R (forL tg m ds e)
  | [], I, e, h0, _, hd => hd e h0
  | d :: ds, I, e, h0, hs, hd => by
    have h := hs 0 d e rfl h0
    unfold forL
    cases q : put tg d e with
    | none => rw [q] at h; exact h.elim
    | some e1 =>
      rw [q] at h
      have h : stP (I (0 + 1)) R (m e1) := h
      have rest : ∀ e2, I (0 + 1) e2 → R (forL tg m ds e2) := fun e2 h3 => forL_rule R (fun k => I (k + 1)) h3 (fun k d' e' hk hi => hs (k + 1) d' e' hk hi) fun e' hi => hd e' hi
      simp only
      cases q2 : m e1 <;> rw [q2] at h <;> first | exact rest _ h | exact h | exact h.elim
theorem lcL_rule {own : List Nat} {tg : CT} {cond elt : ME} : ∀ {ds : List D} (I : Nat → List D → DEnv → Prop) {acc : List D} {e : DEnv}, I 0 acc e →
    (∀ k d acc e, ds[k]? = some d → I k acc e → stO (fun e1 => stB (fun b e2 => if b = true then stE (fun y e3 => acc.length < LIM ∧ I (k + 1) (acc ++ [y]) (wipeE own e3)) (elt e2) else I (k + 1) acc (wipeE own e2)) (cond e1)) (put tg d e)) →
    ∃ acc' e', lcL own tg cond elt ds acc e = .ok acc' e' ∧ I ds.length acc' e'
  | [], I, acc, e, h0, _ => ⟨acc, e, rfl, h0⟩
  | d :: ds, I, acc, e, h0, hs => by
    have h := hs 0 d acc e rfl h0
    unfold lcL
    cases q : put tg d e with
    | none => rw [q] at h; exact h.elim
    | some e1 =>
      rw [q] at h
      rw [stO_some] at h
      simp only
      cases q2 : cond e1 with
      | ok dc e2 =>
        rw [q2] at h
        cases dc with
        | bl b =>
          rw [stB_ok] at h
          cases b with
          | true =>
            rw [if_pos rfl] at h
            simp only
            cases q3 : elt e2 with
            | ok y e3 =>
              rw [q3, stE_ok] at h
              simp only
              rw [if_pos h.1]
              exact lcL_rule (fun k => I (k + 1)) h.2 fun k d' acc' e' hk hi => hs (k + 1) d' acc' e' hk hi
            | ex c d e3 => rw [q3] at h; exact h.elim
            | no => rw [q3] at h; exact h.elim
          | false =>
            rw [if_neg Bool.false_ne_true] at h
            exact lcL_rule (fun k => I (k + 1)) h fun k d' acc' e' hk hi => hs (k + 1) d' acc' e' hk hi
        | _ => exact h.elim
      | ex c d e2 => rw [q2] at h; exact h.elim
      | no => rw [q2] at h; exact h.elim
theorem whileN_rule {t : ME} {m : MS} (R : RS → Prop) (I : Nat → DEnv → Prop)
    (hs : ∀ μ e, I μ e → stB (fun b e1 => if b = true then stP (fun e2 => ∃ μ', μ' < μ ∧ I μ' e2) R (m e1) else R (.nx e1)) (t e)) :
    ∀ (n μ : Nat) (e : DEnv), I μ e → μ < n → R (whileN t m n e)
  | 0, _, _, _, h => absurd h (Nat.not_lt_zero _)
  | n + 1, μ, e, hi, hn => by
    have h := hs μ e hi
    unfold whileN
    cases q : t e with
    | ok dc e1 =>
      rw [q] at h
      cases dc with
      | bl b =>
        rw [stB_ok] at h
        cases b with
        | true =>
          rw [if_pos rfl] at h
          simp only
          have rest : ∀ e2, (∃ μ', μ' < μ ∧ I μ' e2) → R (whileN t m n e2) := fun e2 ⟨μ', h3, h4⟩ => whileN_rule R I hs n μ' e2 h4 (by omega)
          cases q2 : m e1 <;> rw [q2] at h <;> first | exact rest _ h | exact h | exact h.elim
        | false => exact h
      | _ => exact h.elim
    | ex c d e1 => rw [q] at h; exact h.elim
    | no => rw [q] at h; exact h.elim
theorem env4 {e : DEnv} (h : e.length = 4) : ∃ a b c d, e = [a, b, c, d] := by
  match e, h with
  | [a, b, c, d], _ => exact ⟨a, b, c, d, rfl⟩
end
end EV

namespace LW
open PySem PySem.Spec PyProof.Rows L2 EV
def top (i : Nat) : Stmt := PySem.Challenge.pw_fairanyprice_k11_two_books_of_one_row.main.body.getD i (.Pass ⟨0, 0, 0, 0⟩)
def g0 : GF := ⟨fun _ => 0, fun _ => 0, fun _ => ""⟩
def FR : List Str := ["len", "abs", "int", "tuple", "list", "max", "min", "isinstance", "range", "zip", "bool", "str"]
theorem fr_len : ("len" : Str) ∈ FR := by decide +kernel
theorem fr_abs : ("abs" : Str) ∈ FR := by decide +kernel
theorem fr_int : ("int" : Str) ∈ FR := by decide +kernel
theorem fr_tuple : ("tuple" : Str) ∈ FR := by decide +kernel
theorem fr_list : ("list" : Str) ∈ FR := by decide +kernel
theorem fr_max : ("max" : Str) ∈ FR := by decide +kernel
theorem fr_min : ("min" : Str) ∈ FR := by decide +kernel
theorem fr_isinstance : ("isinstance" : Str) ∈ FR := by decide +kernel
theorem fr_range : ("range" : Str) ∈ FR := by decide +kernel
theorem fr_zip : ("zip" : Str) ∈ FR := by decide +kernel
theorem fr_bool : ("bool" : Str) ∈ FR := by decide +kernel
theorem fr_str : ("str" : Str) ∈ FR := by decide +kernel
def d1 : He.DefD := ⟨("step_at", none), "step_at", "step_at", defArgs (top 1), defBody (top 1), defScope (top 1), [], []⟩
def d2 : He.DefD := ⟨("row_room", none), "row_room", "row_room", defArgs (top 2), defBody (top 2), defScope (top 2), [], []⟩
def d4 : He.DefD := ⟨("joined_step", none), "joined_step", "joined_step", defArgs (top 4), defBody (top 4), defScope (top 4), [], []⟩
def d5 : He.DefD := ⟨("joined_words", none), "joined_words", "joined_words", defArgs (top 5), defBody (top 5), defScope (top 5), [], []⟩
def d7 : He.DefD := ⟨("_law_box", none), "_law_box", "_law_box", defArgs (top 7), defBody (top 7), defScope (top 7), [], []⟩
def d8 : He.DefD := ⟨("_law_take", none), "_law_take", "_law_take", defArgs (top 8), defBody (top 8), defScope (top 8), [], []⟩
def d9 : He.DefD := ⟨("_law_pick", none), "_law_pick", "_law_pick", defArgs (top 9), defBody (top 9), defScope (top 9), [], []⟩
def d10 : He.DefD := ⟨("_law_same", none), "_law_same", "_law_same", defArgs (top 10), defBody (top 10), defScope (top 10), [], []⟩
def d11 : He.DefD := ⟨("_law_closed", none), "_law_closed", "_law_closed", defArgs (top 11), defBody (top 11), defScope (top 11), [], []⟩
def d12 : He.DefD := ⟨("_law_service", none), "_law_service", "_law_service", defArgs (top 12), defBody (top 12), defScope (top 12), [], []⟩
def d13 : He.DefD := ⟨("_law_words", none), "_law_words", "_law_words", defArgs (top 13), defBody (top 13), defScope (top 13), [], []⟩
def d14 : He.DefD := ⟨("_law_joined", none), "_law_joined", "_law_joined", defArgs (top 14), defBody (top 14), defScope (top 14), [], []⟩
def d15 : He.DefD := ⟨("_law_row_right", none), "_law_row_right", "_law_row_right", defArgs (top 15), defBody (top 15), defScope (top 15), [], []⟩
def d16 : He.DefD := ⟨("law", none), "law", "law", defArgs (top 16), defBody (top 16), defScope (top 16), [], []⟩
structure Dn (K : PySem.W.Frag) (mg : Str → Option Value) (fd : Nat → FuncData) : Prop where
  f1 : FunD K d1.name d1.qual d1.params d1.body d1.scope (d1.dvs K) (d1.kws K) (He.fAd K d1.at_) (fd 1)
  m1 : mg "step_at" = some (.ref (He.fAd K d1.at_))
  f2 : FunD K d2.name d2.qual d2.params d2.body d2.scope (d2.dvs K) (d2.kws K) (He.fAd K d2.at_) (fd 2)
  m2 : mg "row_room" = some (.ref (He.fAd K d2.at_))
  f4 : FunD K d4.name d4.qual d4.params d4.body d4.scope (d4.dvs K) (d4.kws K) (He.fAd K d4.at_) (fd 4)
  m4 : mg "joined_step" = some (.ref (He.fAd K d4.at_))
  f5 : FunD K d5.name d5.qual d5.params d5.body d5.scope (d5.dvs K) (d5.kws K) (He.fAd K d5.at_) (fd 5)
  m5 : mg "joined_words" = some (.ref (He.fAd K d5.at_))
  f7 : FunD K d7.name d7.qual d7.params d7.body d7.scope (d7.dvs K) (d7.kws K) (He.fAd K d7.at_) (fd 7)
  m7 : mg "_law_box" = some (.ref (He.fAd K d7.at_))
  f8 : FunD K d8.name d8.qual d8.params d8.body d8.scope (d8.dvs K) (d8.kws K) (He.fAd K d8.at_) (fd 8)
  m8 : mg "_law_take" = some (.ref (He.fAd K d8.at_))
  f9 : FunD K d9.name d9.qual d9.params d9.body d9.scope (d9.dvs K) (d9.kws K) (He.fAd K d9.at_) (fd 9)
  m9 : mg "_law_pick" = some (.ref (He.fAd K d9.at_))
  f10 : FunD K d10.name d10.qual d10.params d10.body d10.scope (d10.dvs K) (d10.kws K) (He.fAd K d10.at_) (fd 10)
  m10 : mg "_law_same" = some (.ref (He.fAd K d10.at_))
  f11 : FunD K d11.name d11.qual d11.params d11.body d11.scope (d11.dvs K) (d11.kws K) (He.fAd K d11.at_) (fd 11)
  m11 : mg "_law_closed" = some (.ref (He.fAd K d11.at_))
  f12 : FunD K d12.name d12.qual d12.params d12.body d12.scope (d12.dvs K) (d12.kws K) (He.fAd K d12.at_) (fd 12)
  m12 : mg "_law_service" = some (.ref (He.fAd K d12.at_))
  f13 : FunD K d13.name d13.qual d13.params d13.body d13.scope (d13.dvs K) (d13.kws K) (He.fAd K d13.at_) (fd 13)
  m13 : mg "_law_words" = some (.ref (He.fAd K d13.at_))
  f14 : FunD K d14.name d14.qual d14.params d14.body d14.scope (d14.dvs K) (d14.kws K) (He.fAd K d14.at_) (fd 14)
  m14 : mg "_law_joined" = some (.ref (He.fAd K d14.at_))
  f15 : FunD K d15.name d15.qual d15.params d15.body d15.scope (d15.dvs K) (d15.kws K) (He.fAd K d15.at_) (fd 15)
  m15 : mg "_law_row_right" = some (.ref (He.fAd K d15.at_))
  f16 : FunD K d16.name d16.qual d16.params d16.body d16.scope (d16.dvs K) (d16.kws K) (He.fAd K d16.at_) (fd 16)
  m16 : mg "law" = some (.ref (He.fAd K d16.at_))
  fr : ∀ x ∈ FR, mg x = none
/-! ### step_at -/
abbrev N1 : List Str := ["book", "room", "sign"]
abbrev mask_1 : List Bool := [false, false, false]
theorem S1 : FnScope N1 ["book", "room", "sign"] (defScope (top 1)) := ⟨rfl, rfl, rfl, by decide +kernel, rfl, by decide +kernel, by decide +kernel⟩
theorem bind_1 {K : PySem.W.Frag} {f : Addr} {fd : FuncData} (F : FunD K d1.name d1.qual d1.params d1.body d1.scope (d1.dvs K) (d1.kws K) f fd) : Binds K fd ["book", "room", "sign"] [] := FunD.bindsN F fun _ _ _ _ _ _ us hl => match us, hl with | [_, _, _], _ => rfl
def m_1 : MS := (mSeq (mRet (mIf (mOp2 (cmpD fun i j => decide (i < j)) (.v 2) (.e (mOp1 lenD (.e (mOp2 ixD (.v 0) (.v 1)))))) (mOp2 ixD (.e (mOp2 ixD (.v 0) (.v 1))) (.v 2)) (mC .non)))
  RS.nx)
def c_1 : List D → RC := callF 3 mask_1 m_1
theorem b_1 {X : Cx} {W : WX} {fd : Nat → FuncData} (C : Cf X W N1 (defScope (top 1)) FR) (R : Room 0 X.A) (T : Dn X.K X.mg fd) : SSs X g0 W (lix 0 mask_1) (defBody (top 1)) m_1 := by
  have h0 : varB N1 (defScope (top 1)) 0 "book" = true := by decide +kernel
  have h1 : varB N1 (defScope (top 1)) 1 "room" = true := by decide +kernel
  have h2 : varB N1 (defScope (top 1)) 2 "sign" = true := by decide +kernel
  have g_len : glB (defScope (top 1)) "len" = true := by decide +kernel
  unfold m_1
  exact (sss_cons (ss_ret (se_if (st_lt (SOp.v C.toCn h2) (SOp.e (se_len C.toCn fr_len g_len (SOp.e (se_ix C.toCn (SOp.v C.toCn h0) (SOp.v C.toCn h1) (fun _ _ => rfl))) rfl))) (se_ix C.toCn (SOp.e (se_ix C.toCn (SOp.v C.toCn h0) (SOp.v C.toCn h1) (fun _ _ => rfl))) (SOp.v C.toCn h2) (fun _ _ => rfl)) (se_non (g := g0) (W := W))))
  sss_nil)
theorem ok_1 {P : Program} {w : World} {K : PySem.W.Frag} {mg : Str → Option Value} {base : Heap} {fd : Nat → FuncData} (T : Dn K mg fd) : FnOk P w K mg base (L2.CX P w) 1 (He.fAd K d1.at_) (fd 1) ["book", "room", "sign"] (Prom ⟨g0, K⟩ mask_1 c_1) :=
  fn_okC T.f1 S1 rfl (by decide) T.fr fun X W e1 e2 e3 e4 e5 R C => by
    subst e1 e2 e3 e4 e5
    exact b_1 C R T
/-! ### row_room -/
abbrev N2 : List Str := ["book", "row", "room", "sign", "step"]
abbrev mask_2 : List Bool := [false, false]
theorem S2 : FnScope N2 ["book", "row"] (defScope (top 2)) := ⟨rfl, rfl, rfl, by decide +kernel, rfl, by decide +kernel, by decide +kernel⟩
theorem bind_2 {K : PySem.W.Frag} {f : Addr} {fd : FuncData} (F : FunD K d2.name d2.qual d2.params d2.body d2.scope (d2.dvs K) (d2.kws K) f fd) : Binds K fd ["book", "row"] [] := FunD.bindsN F fun _ _ _ _ _ _ us hl => match us, hl with | [_, _], _ => rfl
def s_2_1 : MS := (mSeq (mAsg (.v 4) (mCall c_1 mask_1 [] [.t (mV 0), .t (mV 2), .t (mV 3)]))
  (mSeq (mIfS (mOp1 (fun d => some (.bl (isN d))) (.v 4)) (mSeq (mRet (mC .non))
  RS.nx) RS.nx)
  (mSeq (mAsg (.v 2) (mOp2 ixD (.v 4) (.e (mC (.int 2)))))
  RS.nx)))
def m_2 : MS := (mSeq (mAsg (.v 2) (mC (.int 0)))
  (mSeq (mFor [] (.v 3) (mIt (mV 1)) s_2_1)
  (mSeq (mRet (mMv 2))
  RS.nx)))
def c_2 : List D → RC := callF 5 mask_2 m_2
theorem b_2 {X : Cx} {W : WX} {fd : Nat → FuncData} (C : Cf X W N2 (defScope (top 2)) FR) (R : Room 1 X.A) (T : Dn X.K X.mg fd) : SSs X g0 W (lix 0 mask_2) (defBody (top 2)) m_2 := by
  have h0 : varB N2 (defScope (top 2)) 0 "book" = true := by decide +kernel
  have h1 : varB N2 (defScope (top 2)) 1 "row" = true := by decide +kernel
  have h2 : varB N2 (defScope (top 2)) 2 "room" = true := by decide +kernel
  have h3 : varB N2 (defScope (top 2)) 3 "sign" = true := by decide +kernel
  have h4 : varB N2 (defScope (top 2)) 4 "step" = true := by decide +kernel
  have g_step_at : glB (defScope (top 2)) "step_at" = true := by decide +kernel
  unfold m_2
  exact (sss_cons (ss_setC C (by decide +kernel) (se_int (g := g0) (W := W)) (by decide) rfl)
  (sss_cons (ss_for (Ls := []) (t := (.v 3)) C.po C.calm (si_seq (se_v C.toCn h1)) (pg_f C (by decide +kernel)) (gok_v (by decide)) (sss_cons (ss_setC C (by decide +kernel) (se_call (dvs := []) (ds := []) C.tk (ok_1 T) (R.mono (by decide)) (gl_ok C.toCn g_step_at) T.m1 T.f1.kp (bind_1 T.f1) .nil (fun _ _ => .nil) (sa_consT (se_v C.toCn h0) (sa_consT (se_v C.toCn h2) (sa_consT (se_v C.toCn h3) sa_nil rfl) rfl) rfl) (by decide) rfl rfl) (by decide) rfl)
  (sss_cons (ss_if (st_isN (SOp.v C.toCn h4)) (sss_cons (ss_ret (se_non (g := g0) (W := W)))
  sss_nil) sss_nil)
  (sss_cons (ss_setC C (by decide +kernel) (se_ix C.toCn (SOp.v C.toCn h4) (SOp.e (se_int (g := g0) (W := W))) (fun _ _ => rfl)) (by decide) rfl)
  sss_nil))) (fun _ => rfl))
  (sss_cons (ss_ret (se_mv C.toCn h2))
  sss_nil)))
theorem ok_2 {P : Program} {w : World} {K : PySem.W.Frag} {mg : Str → Option Value} {base : Heap} {fd : Nat → FuncData} (T : Dn K mg fd) : FnOk P w K mg base (L2.CX P w) 2 (He.fAd K d2.at_) (fd 2) ["book", "row"] (Prom ⟨g0, K⟩ mask_2 c_2) :=
  fn_okC T.f2 S2 rfl (by decide) T.fr fun X W e1 e2 e3 e4 e5 R C => by
    subst e1 e2 e3 e4 e5
    exact b_2 C R T
/-! ### joined_step -/
abbrev N4 : List Str := ["left", "right", "numbers", "pairs", "pair"]
abbrev mask_4 : List Bool := [false, false, true, true]
theorem S4 : FnScope N4 ["left", "right", "numbers", "pairs"] (defScope (top 4)) := ⟨rfl, rfl, rfl, by decide +kernel, rfl, by decide +kernel, by decide +kernel⟩
theorem bind_4 {K : PySem.W.Frag} {f : Addr} {fd : FuncData} (F : FunD K d4.name d4.qual d4.params d4.body d4.scope (d4.dvs K) (d4.kws K) f fd) : Binds K fd ["left", "right", "numbers", "pairs"] [] := FunD.bindsN F fun _ _ _ _ _ _ us hl => match us, hl with | [_, _, _, _], _ => rfl
def m_4 : MS := (mSeq (mIfS (mTOr (mOp1 (fun d => some (.bl (isN d))) (.v 0)) (mTOr (mOp1 (fun d => some (.bl (isN d))) (.v 1)) (mOp2 neD (.e (mOp2 ixD (.v 0) (.e (mC (.int 0))))) (.e (mOp2 ixD (.v 1) (.e (mC (.int 0)))))))) (mSeq (mRet (mC .non))
  RS.nx) RS.nx)
  (mSeq (mAsg (.v 4) (mTup [.t (mOp2 ixD (.v 0) (.e (mC (.int 2)))), .t (mOp2 ixD (.v 1) (.e (mC (.int 2))))]))
  (mSeq (mIfS (mOp2 notinB (.v 4) (.v 2)) (mSeq (mSet 2 (.v 4) (mOp1 lenD (.v 3)))
  (mSeq (mExpr (mApp 3 (mV 4)))
  RS.nx)) RS.nx)
  (mSeq (mRet (mTup [.t (mOp2 ixD (.v 0) (.e (mC (.int 0)))), .t (mTup [.t (mOp2 ixD (.v 0) (.e (mC (.int 1)))), .t (mOp2 ixD (.v 1) (.e (mC (.int 1))))]), .t (mOp2 ixD (.v 2) (.v 4))]))
  RS.nx))))
def c_4 : List D → RC := callF 5 mask_4 m_4
theorem b_4 {X : Cx} {W : WX} {fd : Nat → FuncData} (C : Cf X W N4 (defScope (top 4)) FR) (R : Room 0 X.A) (T : Dn X.K X.mg fd) : SSs X g0 W (lix 0 mask_4) (defBody (top 4)) m_4 := by
  have h0 : varB N4 (defScope (top 4)) 0 "left" = true := by decide +kernel
  have h1 : varB N4 (defScope (top 4)) 1 "right" = true := by decide +kernel
  have h2 : varB N4 (defScope (top 4)) 2 "numbers" = true := by decide +kernel
  have h3 : varB N4 (defScope (top 4)) 3 "pairs" = true := by decide +kernel
  have h4 : varB N4 (defScope (top 4)) 4 "pair" = true := by decide +kernel
  have g_len : glB (defScope (top 4)) "len" = true := by decide +kernel
  unfold m_4
  exact (sss_cons (ss_if (st_bool (sw_or (st_isN (SOp.v C.toCn h0)) (sw_or (st_isN (SOp.v C.toCn h1)) (sw_or1 (st_ne C.toCn (SOp.e (se_ix C.toCn (SOp.v C.toCn h0) (SOp.e (se_int (g := g0) (W := W))) (fun _ _ => rfl))) (SOp.e (se_ix C.toCn (SOp.v C.toCn h1) (SOp.e (se_int (g := g0) (W := W))) (fun _ _ => rfl)))))))) (sss_cons (ss_ret (se_non (g := g0) (W := W)))
  sss_nil) sss_nil)
  (sss_cons (ss_setC C (by decide +kernel) (se_tup (g := g0) (W := W) (sa_consT (se_ix C.toCn (SOp.v C.toCn h0) (SOp.e (se_int (g := g0) (W := W))) (fun _ _ => rfl)) (sa_consT (se_ix C.toCn (SOp.v C.toCn h1) (SOp.e (se_int (g := g0) (W := W))) (fun _ _ => rfl)) sa_nil rfl) rfl)) (by decide) rfl)
  (sss_cons (ss_if (st_notin C.toCn (SOp.v C.toCn h4) (SOp.v C.toCn h2) rfl) (sss_cons (ss_sub C.toCn h2 (SOp.v C.toCn h4) (se_len C.toCn fr_len g_len (SOp.v C.toCn h3) rfl) rfl rfl rfl (fun _ => rfl))
  (sss_cons (ss_expr (se_app C.toCn h3 (se_v C.toCn h4) rfl rfl) rfl)
  sss_nil)) sss_nil)
  (sss_cons (ss_ret (se_tup (g := g0) (W := W) (sa_consT (se_ix C.toCn (SOp.v C.toCn h0) (SOp.e (se_int (g := g0) (W := W))) (fun _ _ => rfl)) (sa_consT (se_tup (g := g0) (W := W) (sa_consT (se_ix C.toCn (SOp.v C.toCn h0) (SOp.e (se_int (g := g0) (W := W))) (fun _ _ => rfl)) (sa_consT (se_ix C.toCn (SOp.v C.toCn h1) (SOp.e (se_int (g := g0) (W := W))) (fun _ _ => rfl)) sa_nil rfl) rfl)) (sa_consT (se_ix C.toCn (SOp.v C.toCn h2) (SOp.v C.toCn h4) (fun _ _ => rfl)) sa_nil rfl) rfl) rfl)))
  sss_nil))))
theorem ok_4 {P : Program} {w : World} {K : PySem.W.Frag} {mg : Str → Option Value} {base : Heap} {fd : Nat → FuncData} (T : Dn K mg fd) : FnOk P w K mg base (L2.CX P w) 1 (He.fAd K d4.at_) (fd 4) ["left", "right", "numbers", "pairs"] (Prom ⟨g0, K⟩ mask_4 c_4) :=
  fn_okC T.f4 S4 rfl (by decide) T.fr fun X W e1 e2 e3 e4 e5 R C => by
    subst e1 e2 e3 e4 e5
    exact b_4 C R T
/-! ### joined_words -/
abbrev N5 : List Str := ["mine", "theirs", "one", "two", "pairs", "numbers", "rooms", "first", "second", "left", "right"]
abbrev mask_5 : List Bool := [false, false, false, false]
theorem S5 : FnScope N5 ["mine", "theirs", "one", "two"] (defScope (top 5)) := ⟨rfl, rfl, rfl, by decide +kernel, rfl, by decide +kernel, by decide +kernel⟩
theorem bind_5 {K : PySem.W.Frag} {f : Addr} {fd : FuncData} (F : FunD K d5.name d5.qual d5.params d5.body d5.scope (d5.dvs K) (d5.kws K) f fd) : Binds K fd ["mine", "theirs", "one", "two"] [] := FunD.bindsN F fun _ _ _ _ _ _ us hl => match us, hl with | [_, _, _, _], _ => rfl
theorem kb_5_0 {K : PySem.W.Frag} {f : Addr} {fd : FuncData} (F : FunD K d5.name d5.qual d5.params d5.body d5.scope (d5.dvs K) (d5.kws K) f fd) : KBn K fd ["mine", "theirs", "one", "two"] 0 ["mine", "theirs", "one", "two"] (fun us ws => genL .none [] [.a 0, .a 1, .a 2, .a 3] (us ++ ws)) (fun vs zs => genL .non [] [.a 0, .a 1, .a 2, .a 3] (vs ++ zs)) := kbn0 F fun _ _ _ _ _ _ us ws h1 h2 => match us, ws, h1, h2 with | [], [_, _, _, _], _, _ => rfl
def q_5_1 : ME := (mFz (mCall c_4 mask_4 [] [.t (mV 9), .t (mV 10), .l 5, .l 4]))
def t_5_2 : ME := (mOp2 (cmpD fun i j => decide (i < j)) (.e (mOp1 lenD (.v 6))) (.e (mOp1 lenD (.v 4))))
def s_5_3 : MS := (mSeq (mAsg (.t [(.v 7), (.v 8)]) (mTup [.t (mOp2 ixD (.v 2) (.e (mOp2 ixD (.e (mOp2 ixD (.v 4) (.e (mOp1 lenD (.v 6))))) (.e (mC (.int 0)))))), .t (mOp2 ixD (.v 3) (.e (mOp2 ixD (.e (mOp2 ixD (.v 4) (.e (mOp1 lenD (.v 6))))) (.e (mC (.int 1))))))]))
  (mSeq (mExpr (mApp 6 (mOp1 tupleD (.e (mLc2 [9, 10] (.v 9) (mIt (mV 7)) mTrue [10] (.v 10) (mIt (mV 8)) mTrue q_5_1)))))
  RS.nx))
def m_5 : MS := (mSeq (mAsg (.t [(.v 4), (.v 5), (.v 6)]) (mTup [.t (mLst [.t (mTup [.t (mC (.int 0)), .t (mC (.int 0))])]), .t (mDisp1T (mTup [.t (mC (.int 0)), .t (mC (.int 0))]) (mC (.int 0))), .t (mLst [])]))
  (mSeq (mWhile t_5_2 s_5_3)
  (mSeq (mRet (mTup [.t (mV 0), .t (mV 1), .t (mOp1 tupleD (.v 6))]))
  RS.nx)))
def c_5 : List D → RC := callF 11 mask_5 m_5
theorem b_5 {X : Cx} {W : WX} {fd : Nat → FuncData} (C : Cf X W N5 (defScope (top 5)) FR) (R : Room 1 X.A) (T : Dn X.K X.mg fd) : SSs X g0 W (lix 0 mask_5) (defBody (top 5)) m_5 := by
  have h0 : varB N5 (defScope (top 5)) 0 "mine" = true := by decide +kernel
  have h1 : varB N5 (defScope (top 5)) 1 "theirs" = true := by decide +kernel
  have h2 : varB N5 (defScope (top 5)) 2 "one" = true := by decide +kernel
  have h3 : varB N5 (defScope (top 5)) 3 "two" = true := by decide +kernel
  have h4 : varB N5 (defScope (top 5)) 4 "pairs" = true := by decide +kernel
  have h6 : varB N5 (defScope (top 5)) 6 "rooms" = true := by decide +kernel
  have h7 : varB N5 (defScope (top 5)) 7 "first" = true := by decide +kernel
  have g_len : glB (defScope (top 5)) "len" = true := by decide +kernel
  have g_tuple : glB (defScope (top 5)) "tuple" = true := by decide +kernel
  unfold m_5
  exact (sss_cons (ss_asgC C (se_tup (g := g0) (W := W) (sa_consT (se_lst (g := g0) (W := W) (sa_consT (se_tup (g := g0) (W := W) (sa_consT (se_int (g := g0) (W := W)) (sa_consT (se_int (g := g0) (W := W)) sa_nil rfl) rfl)) sa_nil rfl)) (sa_consT (se_disp1T (g := g0) (W := W) C.toCn (se_tup (g := g0) (W := W) (sa_consT (se_int (g := g0) (W := W)) (sa_consT (se_int (g := g0) (W := W)) sa_nil rfl) rfl)) (se_int (g := g0) (W := W))) (sa_consT (se_lst (g := g0) (W := W) sa_nil) sa_nil rfl) rfl) rfl)) (pg_tup C.toCn.calm (pgs_cons (pg_f C (by decide +kernel)) (pgs_cons (pg_f C (by decide +kernel)) (pgs_cons (pg_f C (by decide +kernel)) pgs_nil)))) (gok_t rfl rfl (gsok_cons (gok_v (by decide)) (gsok_cons (gok_v (by decide)) (gsok_cons (gok_v (by decide)) gsok_nil)))) rfl (by kernel_rfl) rfl)
  (sss_cons (ss_while C.po (st_lt (SOp.e (se_len C.toCn fr_len g_len (SOp.v C.toCn h6) rfl)) (SOp.e (se_len C.toCn fr_len g_len (SOp.v C.toCn h4) rfl))) (sss_cons (ss_asgC C (se_tup (g := g0) (W := W) (sa_consT (se_ix C.toCn (SOp.v C.toCn h2) (SOp.e (se_ix C.toCn (SOp.e (se_ix C.toCn (SOp.v C.toCn h4) (SOp.e (se_len C.toCn fr_len g_len (SOp.v C.toCn h6) rfl)) (fun _ _ => rfl))) (SOp.e (se_int (g := g0) (W := W))) (fun _ _ => rfl))) (fun _ _ => rfl)) (sa_consT (se_ix C.toCn (SOp.v C.toCn h3) (SOp.e (se_ix C.toCn (SOp.e (se_ix C.toCn (SOp.v C.toCn h4) (SOp.e (se_len C.toCn fr_len g_len (SOp.v C.toCn h6) rfl)) (fun _ _ => rfl))) (SOp.e (se_int (g := g0) (W := W))) (fun _ _ => rfl))) (fun _ _ => rfl)) sa_nil rfl) rfl)) (pg_tup C.toCn.calm (pgs_cons (pg_f C (by decide +kernel)) (pgs_cons (pg_f C (by decide +kernel)) pgs_nil))) (gok_t rfl rfl (gsok_cons (gok_v (by decide)) (gsok_cons (gok_v (by decide)) gsok_nil))) rfl (by kernel_rfl) rfl)
  (sss_cons (ss_expr (se_app C.toCn h6 (se_tuple C.toCn fr_tuple g_tuple (SOp.e (se_lc2C (own' := [("left", 9), ("right", 10)]) (own1 := [10]) (t := (.v 9)) (t1 := (.v 10)) C.toCn (si_seq (se_v C.toCn h7)) (by decide +kernel) (by decide) (fun _ _ _ _ _ C1 => (pg_b C1 (by decide +kernel))) (fun L hL => (gok_vb (by decide) L hL)) (fun _ _ _ _ _ C1 => (pts_true pts_nil)) (fun _ _ _ _ _ C1 => (se_fz (se_call (dvs := []) (ds := []) EV.takes0 (ok_4 T) (R.mono (by decide)) (gl_ok C1 (by decide +kernel)) T.m4 T.f4.kp (bind_4 T.f4) .nil (fun _ _ => .nil) (sa_consT (se_v C1 (by decide +kernel)) (sa_consT (se_v C1 (by decide +kernel)) (sa_consL (pv_ok C1 (by decide +kernel)) (sa_consL (pv_ok C1 (by decide +kernel)) sa_nil rfl) rfl) rfl) rfl) (by decide) rfl rfl))) (fun _ => rfl) (fun _ _ _ _ _ C1 => (si_seq (se_v C1 (by decide +kernel)))) (fun _ _ _ _ _ C1 => (pg_b C1 (by decide +kernel))) (fun L hL => (gok_vb (by decide) L hL)) (fun _ _ _ _ _ C1 => (pts_true pts_nil)) (fun _ _ => rfl))) rfl) rfl rfl) rfl)
  sss_nil)))
  (sss_cons (ss_ret (se_tup (g := g0) (W := W) (sa_consT (se_v C.toCn h0) (sa_consT (se_v C.toCn h1) (sa_consT (se_tuple C.toCn fr_tuple g_tuple (SOp.v C.toCn h6) rfl) sa_nil rfl) rfl) rfl)))
  sss_nil)))
theorem ok_5 {P : Program} {w : World} {K : PySem.W.Frag} {mg : Str → Option Value} {base : Heap} {fd : Nat → FuncData} (T : Dn K mg fd) : FnOk P w K mg base (L2.CX P w) 2 (He.fAd K d5.at_) (fd 5) ["mine", "theirs", "one", "two"] (Prom ⟨g0, K⟩ mask_5 c_5) :=
  fn_okC T.f5 S5 rfl (by decide) T.fr fun X W e1 e2 e3 e4 e5 R C => by
    subst e1 e2 e3 e4 e5
    exact b_5 C R T
/-! ### _law_box -/
abbrev N7 : List Str := ["script", "k", "cell", "great"]
abbrev mask_7 : List Bool := [false, false]
theorem S7 : FnScope N7 ["script", "k"] (defScope (top 7)) := ⟨rfl, rfl, rfl, by decide +kernel, rfl, by decide +kernel, by decide +kernel⟩
theorem bind_7 {K : PySem.W.Frag} {f : Addr} {fd : FuncData} (F : FunD K d7.name d7.qual d7.params d7.body d7.scope (d7.dvs K) (d7.kws K) f fd) : Binds K fd ["script", "k"] [] := FunD.bindsN F fun _ _ _ _ _ _ us hl => match us, hl with | [_, _], _ => rfl
def m_7 : MS := (mSeq (mAsg (.v 2) (mOp2 addD (.e (mOp2 mulD (.e (mC (.int 6967))) (.v 1))) (.e (mC (.int 2309)))))
  (mSeq (mIfS (mOp2 (cmpD fun i j => decide (i < j)) (.v 1) (.e (mOp1 lenD (.v 0)))) (mSeq (mAsg (.v 2) (mOp1 absD (.e (mOp1 intD (.e (mOp2 ixD (.v 0) (.v 1)))))))
  RS.nx) (mSeq (mIfS (mOp2 (cmpD fun i j => decide (j < i)) (.e (mOp1 lenD (.v 0))) (.e (mC (.int 0)))) (mSeq (mAsg (.v 2) (mOp2 addD (.v 2) (.e (mOp2 mulD (.e (mOp2 modD (.e (mOp1 intD (.e (mOp1 absD (.e (mOp1 intD (.e (mOp2 ixD (.v 0) (.e (mOp2 modD (.e (mOp1 intD (.v 1))) (.e (mOp1 lenD (.v 0))))))))))))) (.e (mC (.int 2147483549))))) (.e (mC (.int 57037)))))))
  RS.nx) RS.nx)
  RS.nx))
  (mSeq (mAsg (.v 3) (mIf (mOp2 (cmpD fun i j => decide (j ≤ i)) (.v 2) (.e (mOp2 powD (.e (mC (.int 10))) (.e (mC (.int 18)))))) (mV 2) (mC (.int 0))))
  (mSeq (mRet (mLst [.t (mV 3), .t (mOp2 addD (.e (mOp2 modD (.e (mOp1 intD (.e (mOp2 addD (.e (mOp2 mulD (.e (mOp2 modD (.e (mOp1 intD (.v 2))) (.e (mC (.int 2147483549))))) (.e (mC (.int 40487))))) (.e (mOp2 mulD (.e (mC (.int 2309))) (.v 1))))))) (.e (mC (.int 2147483549))))) (.e (mC (.int 1))))]))
  RS.nx))))
def c_7 : List D → RC := callF 4 mask_7 m_7
theorem b_7 {X : Cx} {W : WX} {fd : Nat → FuncData} (C : Cf X W N7 (defScope (top 7)) FR) (R : Room 0 X.A) (T : Dn X.K X.mg fd) : SSs X g0 W (lix 0 mask_7) (defBody (top 7)) m_7 := by
  have h0 : varB N7 (defScope (top 7)) 0 "script" = true := by decide +kernel
  have h1 : varB N7 (defScope (top 7)) 1 "k" = true := by decide +kernel
  have h2 : varB N7 (defScope (top 7)) 2 "cell" = true := by decide +kernel
  have h3 : varB N7 (defScope (top 7)) 3 "great" = true := by decide +kernel
  have g_abs : glB (defScope (top 7)) "abs" = true := by decide +kernel
  have g_int : glB (defScope (top 7)) "int" = true := by decide +kernel
  have g_len : glB (defScope (top 7)) "len" = true := by decide +kernel
  unfold m_7
  exact (sss_cons (ss_setC C (by decide +kernel) (se_add (SOp.e (se_mul (SOp.e (se_int (g := g0) (W := W))) (SOp.v C.toCn h1))) (SOp.e (se_int (g := g0) (W := W)))) (by decide) rfl)
  (sss_cons (ss_if (st_lt (SOp.v C.toCn h1) (SOp.e (se_len C.toCn fr_len g_len (SOp.v C.toCn h0) rfl))) (sss_cons (ss_setC C (by decide +kernel) (se_abs C.toCn fr_abs g_abs (SOp.e (se_int1 C.toCn fr_int g_int (SOp.e (se_ix C.toCn (SOp.v C.toCn h0) (SOp.v C.toCn h1) (fun _ _ => rfl))) rfl)) rfl) (by decide) rfl)
  sss_nil) (sss_cons (ss_if (st_gt (SOp.e (se_len C.toCn fr_len g_len (SOp.v C.toCn h0) rfl)) (SOp.e (se_int (g := g0) (W := W)))) (sss_cons (ss_setC C (by decide +kernel) (se_add (SOp.v C.toCn h2) (SOp.e (se_mul (SOp.e (se_mod (SOp.e (se_int1 C.toCn fr_int g_int (SOp.e (se_abs C.toCn fr_abs g_abs (SOp.e (se_int1 C.toCn fr_int g_int (SOp.e (se_ix C.toCn (SOp.v C.toCn h0) (SOp.e (se_mod (SOp.e (se_int1 C.toCn fr_int g_int (SOp.v C.toCn h1) rfl)) (SOp.e (se_len C.toCn fr_len g_len (SOp.v C.toCn h0) rfl)))) (fun _ _ => rfl))) rfl)) rfl)) rfl)) (SOp.e (se_int (g := g0) (W := W))))) (SOp.e (se_int (g := g0) (W := W)))))) (by decide) rfl)
  sss_nil) sss_nil)
  sss_nil))
  (sss_cons (ss_setC C (by decide +kernel) (se_if (st_ge (SOp.v C.toCn h2) (SOp.e (se_pow (SOp.e (se_int (g := g0) (W := W))) (SOp.e (se_int (g := g0) (W := W)))))) (se_v C.toCn h2) (se_int (g := g0) (W := W))) (by decide) rfl)
  (sss_cons (ss_ret (se_lst (g := g0) (W := W) (sa_consT (se_v C.toCn h3) (sa_consT (se_add (SOp.e (se_mod (SOp.e (se_int1 C.toCn fr_int g_int (SOp.e (se_add (SOp.e (se_mul (SOp.e (se_mod (SOp.e (se_int1 C.toCn fr_int g_int (SOp.v C.toCn h2) rfl)) (SOp.e (se_int (g := g0) (W := W))))) (SOp.e (se_int (g := g0) (W := W))))) (SOp.e (se_mul (SOp.e (se_int (g := g0) (W := W))) (SOp.v C.toCn h1))))) rfl)) (SOp.e (se_int (g := g0) (W := W))))) (SOp.e (se_int (g := g0) (W := W)))) sa_nil rfl) rfl)))
  sss_nil))))
theorem ok_7 {P : Program} {w : World} {K : PySem.W.Frag} {mg : Str → Option Value} {base : Heap} {fd : Nat → FuncData} (T : Dn K mg fd) : FnOk P w K mg base (L2.CX P w) 1 (He.fAd K d7.at_) (fd 7) ["script", "k"] (Prom ⟨g0, K⟩ mask_7 c_7) :=
  fn_okC T.f7 S7 rfl (by decide) T.fr fun X W e1 e2 e3 e4 e5 R C => by
    subst e1 e2 e3 e4 e5
    exact b_7 C R T
/-! ### _law_take -/
abbrev N8 : List Str := ["box", "many", "digit", "raw"]
abbrev mask_8 : List Bool := [true, false]
theorem S8 : FnScope N8 ["box", "many"] (defScope (top 8)) := ⟨rfl, rfl, rfl, by decide +kernel, rfl, by decide +kernel, by decide +kernel⟩
theorem bind_8 {K : PySem.W.Frag} {f : Addr} {fd : FuncData} (F : FunD K d8.name d8.qual d8.params d8.body d8.scope (d8.dvs K) (d8.kws K) f fd) : Binds K fd ["box", "many"] [] := FunD.bindsN F fun _ _ _ _ _ _ us hl => match us, hl with | [_, _], _ => rfl
def m_8 : MS := (mSeq (mIfS (mOp2 (cmpD fun i j => decide (j < i)) (.e (mOp2 ixD (.v 0) (.e (mC (.int 0))))) (.e (mC (.int 0)))) (mSeq (mAsg (.v 2) (mOp2 modD (.e (mOp1 intD (.e (mOp2 ixD (.v 0) (.e (mC (.int 0))))))) (.v 1)))
  (mSeq (mSet 0 (.e (mC (.int 0))) (mOp2 fdivD (.e (mOp2 ixD (.v 0) (.e (mC (.int 0))))) (.v 1)))
  (mSeq (mRet (mMv 2))
  RS.nx))) RS.nx)
  (mSeq (mAsg (.v 3) (mOp2 modD (.e (mOp1 intD (.e (mOp2 addD (.e (mOp2 mulD (.e (mOp2 ixD (.v 0) (.e (mC (.int 1))))) (.e (mC (.int 39373))))) (.e (mC (.int 547))))))) (.e (mC (.int 2147483647)))))
  (mSeq (mSet 0 (.e (mC (.int 1))) (mOp2 addD (.e (mOp2 modD (.e (mOp1 intD (.e (mOp2 addD (.e (mOp2 mulD (.v 3) (.e (mC (.int 40692))))) (.e (mC (.int 73))))))) (.e (mC (.int 2147483399))))) (.e (mC (.int 1)))))
  (mSeq (mRet (mOp2 modD (.e (mOp1 intD (.e (mOp2 fdivD (.e (mOp2 addD (.e (mOp2 mulD (.v 3) (.e (mC (.int 2147483629))))) (.e (mOp2 ixD (.v 0) (.e (mC (.int 1))))))) (.e (mC (.int 8209))))))) (.v 1)))
  RS.nx))))
def c_8 : List D → RC := callF 4 mask_8 m_8
theorem b_8 {X : Cx} {W : WX} {fd : Nat → FuncData} (C : Cf X W N8 (defScope (top 8)) FR) (R : Room 0 X.A) (T : Dn X.K X.mg fd) : SSs X g0 W (lix 0 mask_8) (defBody (top 8)) m_8 := by
  have h0 : varB N8 (defScope (top 8)) 0 "box" = true := by decide +kernel
  have h1 : varB N8 (defScope (top 8)) 1 "many" = true := by decide +kernel
  have h2 : varB N8 (defScope (top 8)) 2 "digit" = true := by decide +kernel
  have h3 : varB N8 (defScope (top 8)) 3 "raw" = true := by decide +kernel
  have g_int : glB (defScope (top 8)) "int" = true := by decide +kernel
  unfold m_8
  exact (sss_cons (ss_if (st_gt (SOp.e (se_ix C.toCn (SOp.v C.toCn h0) (SOp.e (se_int (g := g0) (W := W))) (fun _ _ => rfl))) (SOp.e (se_int (g := g0) (W := W)))) (sss_cons (ss_setC C (by decide +kernel) (se_mod (SOp.e (se_int1 C.toCn fr_int g_int (SOp.e (se_ix C.toCn (SOp.v C.toCn h0) (SOp.e (se_int (g := g0) (W := W))) (fun _ _ => rfl))) rfl)) (SOp.v C.toCn h1)) (by decide) rfl)
  (sss_cons (ss_sub C.toCn h0 (SOp.e (se_int (g := g0) (W := W))) (se_fdiv (SOp.e (se_ix C.toCn (SOp.v C.toCn h0) (SOp.e (se_int (g := g0) (W := W))) (fun _ _ => rfl))) (SOp.v C.toCn h1)) rfl rfl rfl (fun _ => rfl))
  (sss_cons (ss_ret (se_mv C.toCn h2))
  sss_nil))) sss_nil)
  (sss_cons (ss_setC C (by decide +kernel) (se_mod (SOp.e (se_int1 C.toCn fr_int g_int (SOp.e (se_add (SOp.e (se_mul (SOp.e (se_ix C.toCn (SOp.v C.toCn h0) (SOp.e (se_int (g := g0) (W := W))) (fun _ _ => rfl))) (SOp.e (se_int (g := g0) (W := W))))) (SOp.e (se_int (g := g0) (W := W))))) rfl)) (SOp.e (se_int (g := g0) (W := W)))) (by decide) rfl)
  (sss_cons (ss_sub C.toCn h0 (SOp.e (se_int (g := g0) (W := W))) (se_add (SOp.e (se_mod (SOp.e (se_int1 C.toCn fr_int g_int (SOp.e (se_add (SOp.e (se_mul (SOp.v C.toCn h3) (SOp.e (se_int (g := g0) (W := W))))) (SOp.e (se_int (g := g0) (W := W))))) rfl)) (SOp.e (se_int (g := g0) (W := W))))) (SOp.e (se_int (g := g0) (W := W)))) rfl rfl rfl (fun _ => rfl))
  (sss_cons (ss_ret (se_mod (SOp.e (se_int1 C.toCn fr_int g_int (SOp.e (se_fdiv (SOp.e (se_add (SOp.e (se_mul (SOp.v C.toCn h3) (SOp.e (se_int (g := g0) (W := W))))) (SOp.e (se_ix C.toCn (SOp.v C.toCn h0) (SOp.e (se_int (g := g0) (W := W))) (fun _ _ => rfl))))) (SOp.e (se_int (g := g0) (W := W))))) rfl)) (SOp.v C.toCn h1)))
  sss_nil))))
theorem ok_8 {P : Program} {w : World} {K : PySem.W.Frag} {mg : Str → Option Value} {base : Heap} {fd : Nat → FuncData} (T : Dn K mg fd) : FnOk P w K mg base (L2.CX P w) 1 (He.fAd K d8.at_) (fd 8) ["box", "many"] (Prom ⟨g0, K⟩ mask_8 c_8) :=
  fn_okC T.f8 S8 rfl (by decide) T.fr fun X W e1 e2 e3 e4 e5 R C => by
    subst e1 e2 e3 e4 e5
    exact b_8 C R T
/-! ### _law_pick -/
abbrev N9 : List Str := ["box", "some"]
abbrev mask_9 : List Bool := [true, false]
theorem S9 : FnScope N9 ["box", "some"] (defScope (top 9)) := ⟨rfl, rfl, rfl, by decide +kernel, rfl, by decide +kernel, by decide +kernel⟩
theorem bind_9 {K : PySem.W.Frag} {f : Addr} {fd : FuncData} (F : FunD K d9.name d9.qual d9.params d9.body d9.scope (d9.dvs K) (d9.kws K) f fd) : Binds K fd ["box", "some"] [] := FunD.bindsN F fun _ _ _ _ _ _ us hl => match us, hl with | [_, _], _ => rfl
def m_9 : MS := (mSeq (mRet (mOp2 ixD (.v 1) (.e (mCall c_8 mask_8 [] [.l 0, .t (mOp1 lenD (.v 1))]))))
  RS.nx)
def c_9 : List D → RC := callF 2 mask_9 m_9
theorem b_9 {X : Cx} {W : WX} {fd : Nat → FuncData} (C : Cf X W N9 (defScope (top 9)) FR) (R : Room 1 X.A) (T : Dn X.K X.mg fd) : SSs X g0 W (lix 0 mask_9) (defBody (top 9)) m_9 := by
  have h0 : varB N9 (defScope (top 9)) 0 "box" = true := by decide +kernel
  have h1 : varB N9 (defScope (top 9)) 1 "some" = true := by decide +kernel
  have g__law_take : glB (defScope (top 9)) "_law_take" = true := by decide +kernel
  have g_len : glB (defScope (top 9)) "len" = true := by decide +kernel
  unfold m_9
  exact (sss_cons (ss_ret (se_ix C.toCn (SOp.v C.toCn h1) (SOp.e (se_call (dvs := []) (ds := []) C.tk (ok_8 T) (R.mono (by decide)) (gl_ok C.toCn g__law_take) T.m8 T.f8.kp (bind_8 T.f8) .nil (fun _ _ => .nil) (sa_consL (pv_ok C.toCn h0) (sa_consT (se_len C.toCn fr_len g_len (SOp.v C.toCn h1) rfl) sa_nil rfl) rfl) (by decide) rfl rfl)) (fun _ _ => rfl)))
  sss_nil)
theorem ok_9 {P : Program} {w : World} {K : PySem.W.Frag} {mg : Str → Option Value} {base : Heap} {fd : Nat → FuncData} (T : Dn K mg fd) : FnOk P w K mg base (L2.CX P w) 2 (He.fAd K d9.at_) (fd 9) ["box", "some"] (Prom ⟨g0, K⟩ mask_9 c_9) :=
  fn_okC T.f9 S9 rfl (by decide) T.fr fun X W e1 e2 e3 e4 e5 R C => by
    subst e1 e2 e3 e4 e5
    exact b_9 C R T
/-! ### _law_same -/
abbrev N10 : List Str := ["told", "due", "one", "other"]
abbrev mask_10 : List Bool := [false, false]
theorem S10 : FnScope N10 ["told", "due"] (defScope (top 10)) := ⟨rfl, rfl, rfl, by decide +kernel, rfl, by decide +kernel, by decide +kernel⟩
theorem bind_10 {K : PySem.W.Frag} {f : Addr} {fd : FuncData} (F : FunD K d10.name d10.qual d10.params d10.body d10.scope (d10.dvs K) (d10.kws K) f fd) : Binds K fd ["told", "due"] [] := FunD.bindsN F fun _ _ _ _ _ _ us hl => match us, hl with | [_, _], _ => rfl
def s_10_1 (self : List D → RC) : MS := (mSeq (mIfS (mTNot (mTru (.e (mCall self mask_10 [] [.t (mV 2), .t (mV 3)])))) (mSeq (mRet (mC (.bl false)))
  RS.nx) RS.nx)
  RS.nx)
def m_10 (self : List D → RC) : MS := (mSeq (mIfS (mTru (.e (mOp1 (fun d => (isiD .tuple d).map .bl) (.v 1)))) (mSeq (mIfS (mTOr (mTNot (mTru (.e (mOp1 (fun d => (isiD .tuple d).map .bl) (.v 0))))) (mOp2 neD (.e (mOp1 lenD (.v 0))) (.e (mOp1 lenD (.v 1))))) (mSeq (mRet (mC (.bl false)))
  RS.nx) RS.nx)
  (mSeq (mFor [] (.t [(.v 2), (.v 3)]) (mZip2 (mV 0) (mV 1)) (s_10_1 self))
  (mSeq (mRet (mC (.bl true)))
  RS.nx))) RS.nx)
  (mSeq (mIfS (mOp1 (fun d => some (.bl (isN d))) (.v 1)) (mSeq (mRet (mOp1 (fun d => some (.bl (isN d))) (.v 0)))
  RS.nx) RS.nx)
  (mSeq (mIfS (mTOr (mOp1 (fun d => some (.bl (isB true d))) (.v 1)) (mOp1 (fun d => some (.bl (isB false d))) (.v 1))) (mSeq (mRet (mAnd (.e (mOp1 (fun d => (isiD .bool d).map .bl) (.v 0))) (mOp2 eqD (.v 0) (.v 1))))
  RS.nx) RS.nx)
  (mSeq (mIfS (mTru (.e (mOp1 (fun d => (isiD .int d).map .bl) (.v 1)))) (mSeq (mRet (mAnd (.e (mOp1 (fun d => (isiD .int d).map .bl) (.v 0))) (mAnd (.e (mNot (.e (mOp1 (fun d => (isiD .bool d).map .bl) (.v 0))))) (mOp2 eqD (.v 0) (.v 1)))))
  RS.nx) RS.nx)
  (mSeq (mRet (mAnd (.e (mOp1 (fun d => (isiD .str d).map .bl) (.v 0))) (mAnd (.e (mOp1 (fun d => (isiD .str d).map .bl) (.v 1))) (mOp2 eqD (.v 0) (.v 1)))))
  RS.nx)))))
def c_10 : Nat → List D → RC
  | 0 => fun _ => .no
  | n + 1 => callF 4 mask_10 (m_10 (c_10 n))
theorem b_10 {X : Cx} {W : WX} {fd : Nat → FuncData} {n : Nat} {self : List D → RC} (C : Cf X W N10 (defScope (top 10)) FR) (R : Room (0 + n) X.A) (T : Dn X.K X.mg fd) (S : FnOk X.prog X.w X.K X.mg X.base (L2.CX X.prog X.w) (0 + n) (He.fAd X.K d10.at_) (fd 10) ["told", "due"] (Prom (gOf X g0) mask_10 self)) : SSs X g0 W (lix 0 mask_10) (defBody (top 10)) (m_10 self) := by
  have h0 : varB N10 (defScope (top 10)) 0 "told" = true := by decide +kernel
  have h1 : varB N10 (defScope (top 10)) 1 "due" = true := by decide +kernel
  have h2 : varB N10 (defScope (top 10)) 2 "one" = true := by decide +kernel
  have h3 : varB N10 (defScope (top 10)) 3 "other" = true := by decide +kernel
  have g__law_same : glB (defScope (top 10)) "_law_same" = true := by decide +kernel
  have g_bool : glB (defScope (top 10)) "bool" = true := by decide +kernel
  have g_int : glB (defScope (top 10)) "int" = true := by decide +kernel
  have g_isinstance : glB (defScope (top 10)) "isinstance" = true := by decide +kernel
  have g_len : glB (defScope (top 10)) "len" = true := by decide +kernel
  have g_str : glB (defScope (top 10)) "str" = true := by decide +kernel
  have g_tuple : glB (defScope (top 10)) "tuple" = true := by decide +kernel
  have g_zip : glB (defScope (top 10)) "zip" = true := by decide +kernel
  unfold m_10
  exact (sss_cons (ss_if (st_tru (SOp.e (se_isi (T := .tuple) C.toCn fr_isinstance g_isinstance fr_tuple g_tuple (SOp.v C.toCn h1) rfl)) (fun _ => rfl)) (sss_cons (ss_if (st_bool (sw_or (st_not (st_tru (SOp.e (se_isi (T := .tuple) C.toCn fr_isinstance g_isinstance fr_tuple g_tuple (SOp.v C.toCn h0) rfl)) (fun _ => rfl))) (sw_or1 (st_ne C.toCn (SOp.e (se_len C.toCn fr_len g_len (SOp.v C.toCn h0) rfl)) (SOp.e (se_len C.toCn fr_len g_len (SOp.v C.toCn h1) rfl)))))) (sss_cons (ss_ret (se_bl (g := g0) (W := W)))
  sss_nil) sss_nil)
  (sss_cons (ss_for (Ls := []) (t := (.t [(.v 2), (.v 3)])) C.po C.calm (si_zip2 C.toCn fr_zip g_zip (se_v C.toCn h0) (se_v C.toCn h1) rfl rfl rfl) (pg_tup C.toCn.calm (pgs_cons (pg_f C (by decide +kernel)) (pgs_cons (pg_f C (by decide +kernel)) pgs_nil))) (gok_t rfl rfl (gsok_cons (gok_v (by decide)) (gsok_cons (gok_v (by decide)) gsok_nil))) (sss_cons (ss_if (st_not (st_tru (SOp.e (se_call (dvs := []) (ds := []) C.tk S R (gl_ok C.toCn g__law_same) T.m10 T.f10.kp (bind_10 T.f10) .nil (fun _ _ => .nil) (sa_consT (se_v C.toCn h2) (sa_consT (se_v C.toCn h3) sa_nil rfl) rfl) (by decide) rfl rfl)) (fun _ => rfl))) (sss_cons (ss_ret (se_bl (g := g0) (W := W)))
  sss_nil) sss_nil)
  sss_nil) (fun _ => rfl))
  (sss_cons (ss_ret (se_bl (g := g0) (W := W)))
  sss_nil))) sss_nil)
  (sss_cons (ss_if (st_isN (SOp.v C.toCn h1)) (sss_cons (ss_ret (se_isN (SOp.v C.toCn h0)))
  sss_nil) sss_nil)
  (sss_cons (ss_if (st_bool (sw_or (st_isB (SOp.v C.toCn h1)) (sw_or1 (st_isB (SOp.v C.toCn h1))))) (sss_cons (ss_ret (se_and (SOp.e (se_isi (T := .bool) C.toCn fr_isinstance g_isinstance fr_bool g_bool (SOp.v C.toCn h0) rfl)) (se_and1 (se_eq C.toCn (SOp.v C.toCn h0) (SOp.v C.toCn h1)))))
  sss_nil) sss_nil)
  (sss_cons (ss_if (st_tru (SOp.e (se_isi (T := .int) C.toCn fr_isinstance g_isinstance fr_int g_int (SOp.v C.toCn h1) rfl)) (fun _ => rfl)) (sss_cons (ss_ret (se_and (SOp.e (se_isi (T := .int) C.toCn fr_isinstance g_isinstance fr_int g_int (SOp.v C.toCn h0) rfl)) (se_and (SOp.e (se_not (SOp.e (se_isi (T := .bool) C.toCn fr_isinstance g_isinstance fr_bool g_bool (SOp.v C.toCn h0) rfl)))) (se_and1 (se_eq C.toCn (SOp.v C.toCn h0) (SOp.v C.toCn h1))))))
  sss_nil) sss_nil)
  (sss_cons (ss_ret (se_and (SOp.e (se_isi (T := .str) C.toCn fr_isinstance g_isinstance fr_str g_str (SOp.v C.toCn h0) rfl)) (se_and (SOp.e (se_isi (T := .str) C.toCn fr_isinstance g_isinstance fr_str g_str (SOp.v C.toCn h1) rfl)) (se_and1 (se_eq C.toCn (SOp.v C.toCn h0) (SOp.v C.toCn h1))))))
  sss_nil)))))
theorem ok_10 {P : Program} {w : World} {K : PySem.W.Frag} {mg : Str → Option Value} {base : Heap} {fd : Nat → FuncData} (T : Dn K mg fd) : ∀ n, FnOk P w K mg base (L2.CX P w) (0 + n) (He.fAd K d10.at_) (fd 10) ["told", "due"] (Prom ⟨g0, K⟩ mask_10 (c_10 n))
  | 0 => fn_no rfl
  | n + 1 => fn_okC T.f10 S10 rfl (by decide) T.fr fun X W e1 e2 e3 e4 e5 R C => by
    subst e1 e2 e3 e4 e5
    exact b_10 C R T (ok_10 T n)
/-! ### _law_closed -/
abbrev N11 : List Str := ["prices", "many", "found", "stop", "one", "two", "row"]
abbrev mask_11 : List Bool := [true]
theorem S11 : FnScope N11 ["prices"] (defScope (top 11)) := ⟨rfl, rfl, rfl, by decide +kernel, rfl, by decide +kernel, by decide +kernel⟩
theorem bind_11 {K : PySem.W.Frag} {f : Addr} {fd : FuncData} (F : FunD K d11.name d11.qual d11.params d11.body d11.scope (d11.dvs K) (d11.kws K) f fd) : Binds K fd ["prices"] [] := FunD.bindsN F fun _ _ _ _ _ _ us hl => match us, hl with | [_], _ => rfl
def q_11_1 : ME := (mOp1 tupleD (.v 6))
def s_11_2 : MS := (mSeq (mSet2 2 (.s 4) (.s 5) (mOp2 min2D (.e (mIx2 2 (.s 4) (.s 5))) (.e (mOp2 addD (.e (mIx2 2 (.s 4) (.s 3))) (.e (mIx2 2 (.s 3) (.s 5)))))))
  RS.nx)
def s_11_3 : MS := (mSeq (mFor [] (.v 5) (mRg1 (mV 1)) s_11_2)
  RS.nx)
def s_11_4 : MS := (mSeq (mFor [] (.v 4) (mRg1 (mV 1)) s_11_3)
  RS.nx)
def q_11_5 : ME := (mOp1 listD (.v 6))
def m_11 : MS := (mSeq (mPar [1, 2] [.t (mOp1 lenD (.v 0)), .t (mLc [6] (.v 6) (mIt (mV 0)) mTrue q_11_5)])
  (mSeq (mFor [] (.v 3) (mRg1 (mV 1)) s_11_4)
  (mSeq (mRet (mOp1 tupleD (.e (mLc [6] (.v 6) (mIt (mV 2)) mTrue q_11_1))))
  RS.nx)))
def c_11 : List D → RC := callF 7 mask_11 m_11
theorem b_11 {X : Cx} {W : WX} {fd : Nat → FuncData} (C : Cf X W N11 (defScope (top 11)) FR) (R : Room 0 X.A) (T : Dn X.K X.mg fd) : SSs X g0 W (lix 0 mask_11) (defBody (top 11)) m_11 := by
  have h0 : varB N11 (defScope (top 11)) 0 "prices" = true := by decide +kernel
  have h1 : varB N11 (defScope (top 11)) 1 "many" = true := by decide +kernel
  have h2 : varB N11 (defScope (top 11)) 2 "found" = true := by decide +kernel
  have h3 : varB N11 (defScope (top 11)) 3 "stop" = true := by decide +kernel
  have h4 : varB N11 (defScope (top 11)) 4 "one" = true := by decide +kernel
  have h5 : varB N11 (defScope (top 11)) 5 "two" = true := by decide +kernel
  have g_len : glB (defScope (top 11)) "len" = true := by decide +kernel
  have g_min : glB (defScope (top 11)) "min" = true := by decide +kernel
  have g_range : glB (defScope (top 11)) "range" = true := by decide +kernel
  have g_tuple : glB (defScope (top 11)) "tuple" = true := by decide +kernel
  unfold m_11
  exact (sss_cons (ss_parC C (by decide +kernel) (by decide +kernel) (by decide) (sa_consT (se_len C.toCn fr_len g_len (SOp.v C.toCn h0) rfl) (sa_consT (se_lcC (own' := [("row", 6)]) (t := (.v 6)) C.toCn (si_seq (se_v C.toCn h0)) (by decide +kernel) (fun _ _ _ _ _ C1 => (pg_b C1 (by decide +kernel))) (fun L hL => (gok_vb (by decide) L hL)) (fun _ _ _ _ _ C1 => (pts_true pts_nil)) (fun _ _ _ _ _ C1 => (se_list C1 fr_list (by decide +kernel) (SOp.v C1 (by decide +kernel)) rfl)) (fun _ => rfl)) sa_nil rfl) rfl) (by kernel_rfl) (by decide))
  (sss_cons (ss_for (Ls := []) (t := (.v 3)) C.po C.calm (si_rg1 C.toCn fr_range g_range (se_v C.toCn h1) rfl) (pg_f C (by decide +kernel)) (gok_v (by decide)) (sss_cons (ss_for (Ls := []) (t := (.v 4)) C.po C.calm (si_rg1 C.toCn fr_range g_range (se_v C.toCn h1) rfl) (pg_f C (by decide +kernel)) (gok_v (by decide)) (sss_cons (ss_for (Ls := []) (t := (.v 5)) C.po C.calm (si_rg1 C.toCn fr_range g_range (se_v C.toCn h1) rfl) (pg_f C (by decide +kernel)) (gok_v (by decide)) (sss_cons (ss_sub2 C.toCn h2 (sx_s C.toCn h4) (sx_s C.toCn h5) (fun _ _ => rfl) (se_min2 C.toCn fr_min g_min (SOp.e (se_ix2 C.toCn h2 (sx_s C.toCn h4) (sx_s C.toCn h5) (fun _ _ => rfl) (fun _ _ => rfl))) (SOp.e (se_add (SOp.e (se_ix2 C.toCn h2 (sx_s C.toCn h4) (sx_s C.toCn h3) (fun _ _ => rfl) (fun _ _ => rfl))) (SOp.e (se_ix2 C.toCn h2 (sx_s C.toCn h3) (sx_s C.toCn h5) (fun _ _ => rfl) (fun _ _ => rfl))))) rfl rfl rfl) rfl rfl rfl (fun _ => rfl))
  sss_nil) (fun _ => rfl))
  sss_nil) (fun _ => rfl))
  sss_nil) (fun _ => rfl))
  (sss_cons (ss_ret (se_tuple C.toCn fr_tuple g_tuple (SOp.e (se_lcC (own' := [("row", 6)]) (t := (.v 6)) C.toCn (si_seq (se_v C.toCn h2)) (by decide +kernel) (fun _ _ _ _ _ C1 => (pg_b C1 (by decide +kernel))) (fun L hL => (gok_vb (by decide) L hL)) (fun _ _ _ _ _ C1 => (pts_true pts_nil)) (fun _ _ _ _ _ C1 => (se_tuple C1 fr_tuple (by decide +kernel) (SOp.v C1 (by decide +kernel)) rfl)) (fun _ => rfl))) rfl))
  sss_nil)))
theorem ok_11 {P : Program} {w : World} {K : PySem.W.Frag} {mg : Str → Option Value} {base : Heap} {fd : Nat → FuncData} (T : Dn K mg fd) : FnOk P w K mg base (L2.CX P w) 1 (He.fAd K d11.at_) (fd 11) ["prices"] (Prom ⟨g0, K⟩ mask_11 c_11) :=
  fn_okC T.f11 S11 rfl (by decide) T.fr fun X W e1 e2 e3 e4 e5 R C => by
    subst e1 e2 e3 e4 e5
    exact b_11 C R T
/-! ### _law_service -/
abbrev N12 : List Str := ["box", "standings", "tasks", "dear", "rows", "costs", "one", "task", "row", "two", "cost"]
abbrev mask_12 : List Bool := [true, false, false, false]
theorem S12 : FnScope N12 ["box", "standings", "tasks", "dear"] (defScope (top 12)) := ⟨rfl, rfl, rfl, by decide +kernel, rfl, by decide +kernel, by decide +kernel⟩
theorem bind_12 {K : PySem.W.Frag} {f : Addr} {fd : FuncData} (F : FunD K d12.name d12.qual d12.params d12.body d12.scope (d12.dvs K) (d12.kws K) f fd) : Binds K fd ["box", "standings", "tasks", "dear"] [] := FunD.bindsN F fun _ _ _ _ _ _ us hl => match us, hl with | [_, _, _, _], _ => rfl
def q_12_1 : ME := (mV 10)
def t_12_2 : ME := (mOp1 (fun d => some (.bl (!isN d))) (.v 10))
def q_12_3 : ME := (mFz (mIf (mOp2 eqD (.e (mCall c_8 mask_8 [] [.l 0, .t (mC (.int 5))])) (.e (mC (.int 0)))) (mC .non) (mCall c_8 mask_8 [] [.l 0, .t (mOp2 addD (.v 3) (.e (mC (.int 1))))])))
def s_12_4 : MS := (mSeq (mAsg (.v 8) (mLc [6] (.v 6) (mRg1 (mV 1)) mTrue q_12_3))
  (mSeq (mIfS (mOp2 eqD (.e (mLc [10] (.v 10) (mItV 8) t_12_2 q_12_1)) (.e (mLst []))) (mSeq (mSet 8 (.e (mCall c_8 mask_8 [] [.l 0, .t (mV 1)])) (mFz (mCall c_8 mask_8 [] [.l 0, .t (mOp2 addD (.v 3) (.e (mC (.int 1))))])))
  RS.nx) RS.nx)
  (mSeq (mExpr (mApp 5 (mOp1 tupleD (.v 8))))
  RS.nx)))
def q_12_5 : ME := (mFz (mIf (mOp2 eqD (.v 6) (.v 9)) (mC (.int 0)) (mCall c_8 mask_8 [] [.l 0, .t (mOp2 addD (.v 3) (.e (mC (.int 1))))])))
def s_12_6 : MS := (mSeq (mExpr (mApp 4 (mFz (mLc [9] (.v 9) (mRg1 (mV 1)) mTrue q_12_5))))
  RS.nx)
def m_12 : MS := (mSeq (mPar [4, 5] [.t (mLst []), .t (mLst [])])
  (mSeq (mFor [] (.v 6) (mRg1 (mV 1)) s_12_6)
  (mSeq (mFor [] (.v 7) (mRg1 (mV 2)) s_12_4)
  (mSeq (mRet (mTup [.t (mCall c_11 mask_11 [] [.l 4]), .t (mOp1 tupleD (.v 5))]))
  RS.nx))))
def c_12 : List D → RC := callF 11 mask_12 m_12
theorem b_12 {X : Cx} {W : WX} {fd : Nat → FuncData} (C : Cf X W N12 (defScope (top 12)) FR) (R : Room 1 X.A) (T : Dn X.K X.mg fd) : SSs X g0 W (lix 0 mask_12) (defBody (top 12)) m_12 := by
  have h0 : varB N12 (defScope (top 12)) 0 "box" = true := by decide +kernel
  have h1 : varB N12 (defScope (top 12)) 1 "standings" = true := by decide +kernel
  have h2 : varB N12 (defScope (top 12)) 2 "tasks" = true := by decide +kernel
  have h3 : varB N12 (defScope (top 12)) 3 "dear" = true := by decide +kernel
  have h4 : varB N12 (defScope (top 12)) 4 "rows" = true := by decide +kernel
  have h5 : varB N12 (defScope (top 12)) 5 "costs" = true := by decide +kernel
  have h8 : varB N12 (defScope (top 12)) 8 "row" = true := by decide +kernel
  have g__law_closed : glB (defScope (top 12)) "_law_closed" = true := by decide +kernel
  have g__law_take : glB (defScope (top 12)) "_law_take" = true := by decide +kernel
  have g_range : glB (defScope (top 12)) "range" = true := by decide +kernel
  have g_tuple : glB (defScope (top 12)) "tuple" = true := by decide +kernel
  unfold m_12
  exact (sss_cons (ss_parC C (by decide +kernel) (by decide +kernel) (by decide) (sa_consT (se_lst (g := g0) (W := W) sa_nil) (sa_consT (se_lst (g := g0) (W := W) sa_nil) sa_nil rfl) rfl) (by kernel_rfl) (by decide))
  (sss_cons (ss_for (Ls := []) (t := (.v 6)) C.po C.calm (si_rg1 C.toCn fr_range g_range (se_v C.toCn h1) rfl) (pg_f C (by decide +kernel)) (gok_v (by decide)) (sss_cons (ss_expr (se_app C.toCn h4 (se_fz (se_lcC (own' := [("two", 9)]) (t := (.v 9)) C.toCn (si_rg1 C.toCn fr_range g_range (se_v C.toCn h1) rfl) (by decide +kernel) (fun _ _ _ _ _ C1 => (pg_b C1 (by decide +kernel))) (fun L hL => (gok_vb (by decide) L hL)) (fun _ _ _ _ _ C1 => (pts_true pts_nil)) (fun _ _ _ _ _ C1 => (se_fz (se_if (st_eq C1 (SOp.v C1 (by decide +kernel)) (SOp.v C1 (by decide +kernel))) (se_int (g := g0) (W := W0)) (se_call (dvs := []) (ds := []) EV.takes0 (ok_8 T) (R.mono (by decide)) (gl_ok C1 (by decide +kernel)) T.m8 T.f8.kp (bind_8 T.f8) .nil (fun _ _ => .nil) (sa_consL (pv_ok C1 (by decide +kernel)) (sa_consT (se_add (SOp.v C1 (by decide +kernel)) (SOp.e (se_int (g := g0) (W := W0)))) sa_nil rfl) rfl) (by decide) rfl rfl)))) (fun _ => rfl))) rfl rfl) rfl)
  sss_nil) (fun _ => rfl))
  (sss_cons (ss_for (Ls := []) (t := (.v 7)) C.po C.calm (si_rg1 C.toCn fr_range g_range (se_v C.toCn h2) rfl) (pg_f C (by decide +kernel)) (gok_v (by decide)) (sss_cons (ss_setLcC C (by decide +kernel) rfl rfl (by decide +kernel) (by decide) (si_rg1 C.toCn fr_range g_range (se_v C.toCn h1) rfl) (own' := [("one", 6)]) (t := (.v 6)) (by decide +kernel) (fun _ _ _ _ _ C1 => (pg_b C1 (by decide +kernel))) (fun L hL => (gok_vb (by decide) L hL)) (fun _ _ _ _ _ C1 => (pts_true pts_nil)) (fun _ _ _ _ _ C1 => (se_fz (se_if (st_eq C1 (SOp.e (se_call (dvs := []) (ds := []) EV.takes0 (ok_8 T) (R.mono (by decide)) (gl_ok C1 (by decide +kernel)) T.m8 T.f8.kp (bind_8 T.f8) .nil (fun _ _ => .nil) (sa_consL (pv_ok C1 (by decide +kernel)) (sa_consT (se_int (g := g0) (W := W0)) sa_nil rfl) rfl) (by decide) rfl rfl)) (SOp.e (se_int (g := g0) (W := W0)))) (se_non (g := g0) (W := W0)) (se_call (dvs := []) (ds := []) EV.takes0 (ok_8 T) (R.mono (by decide)) (gl_ok C1 (by decide +kernel)) T.m8 T.f8.kp (bind_8 T.f8) .nil (fun _ _ => .nil) (sa_consL (pv_ok C1 (by decide +kernel)) (sa_consT (se_add (SOp.v C1 (by decide +kernel)) (SOp.e (se_int (g := g0) (W := W0)))) sa_nil rfl) rfl) (by decide) rfl rfl)))) (fun _ => rfl))
  (sss_cons (ss_if (st_eq C.toCn (SOp.e (se_lcC (own' := [("cost", 10)]) (t := (.v 10)) C.toCn (si_v C.toCn h8) (by decide +kernel) (fun _ _ _ _ _ C1 => (pg_b C1 (by decide +kernel))) (fun L hL => (gok_vb (by decide) L hL)) (fun _ _ _ _ _ C1 => (pts_one (st_notN (SOp.v C1 (by decide +kernel))))) (fun _ _ _ _ _ C1 => (se_v C1 (by decide +kernel))) (fun _ => rfl))) (SOp.e (se_lst (g := g0) (W := W) sa_nil))) (sss_cons (ss_sub C.toCn h8 (SOp.e (se_call (dvs := []) (ds := []) C.tk (ok_8 T) (R.mono (by decide)) (gl_ok C.toCn g__law_take) T.m8 T.f8.kp (bind_8 T.f8) .nil (fun _ _ => .nil) (sa_consL (pv_ok C.toCn h0) (sa_consT (se_v C.toCn h1) sa_nil rfl) rfl) (by decide) rfl rfl)) (se_fz (se_call (dvs := []) (ds := []) C.tk (ok_8 T) (R.mono (by decide)) (gl_ok C.toCn g__law_take) T.m8 T.f8.kp (bind_8 T.f8) .nil (fun _ _ => .nil) (sa_consL (pv_ok C.toCn h0) (sa_consT (se_add (SOp.v C.toCn h3) (SOp.e (se_int (g := g0) (W := W)))) sa_nil rfl) rfl) (by decide) rfl rfl)) rfl rfl rfl (fun _ => rfl))
  sss_nil) sss_nil)
  (sss_cons (ss_expr (se_app C.toCn h5 (se_tuple C.toCn fr_tuple g_tuple (SOp.v C.toCn h8) rfl) rfl rfl) rfl)
  sss_nil))) (fun _ => rfl))
  (sss_cons (ss_ret (se_tup (g := g0) (W := W) (sa_consT (se_call (dvs := []) (ds := []) C.tk (ok_11 T) (R.mono (by decide)) (gl_ok C.toCn g__law_closed) T.m11 T.f11.kp (bind_11 T.f11) .nil (fun _ _ => .nil) (sa_consL (pv_ok C.toCn h4) sa_nil rfl) (by decide) rfl rfl) (sa_consT (se_tuple C.toCn fr_tuple g_tuple (SOp.v C.toCn h5) rfl) sa_nil rfl) rfl)))
  sss_nil))))
theorem ok_12 {P : Program} {w : World} {K : PySem.W.Frag} {mg : Str → Option Value} {base : Heap} {fd : Nat → FuncData} (T : Dn K mg fd) : FnOk P w K mg base (L2.CX P w) 2 (He.fAd K d12.at_) (fd 12) ["box", "standings", "tasks", "dear"] (Prom ⟨g0, K⟩ mask_12 c_12) :=
  fn_okC T.f12 S12 rfl (by decide) T.fr fun X W e1 e2 e3 e4 e5 R C => by
    subst e1 e2 e3 e4 e5
    exact b_12 C R T
/-! ### _law_words -/
abbrev N13 : List Str := ["box", "tasks", "rooms", "signs", "found", "room", "row", "sign"]
abbrev mask_13 : List Bool := [true, false]
theorem S13 : FnScope N13 ["box", "tasks"] (defScope (top 13)) := ⟨rfl, rfl, rfl, by decide +kernel, rfl, by decide +kernel, by decide +kernel⟩
theorem bind_13 {K : PySem.W.Frag} {f : Addr} {fd : FuncData} (F : FunD K d13.name d13.qual d13.params d13.body d13.scope (d13.dvs K) (d13.kws K) f fd) : Binds K fd ["box", "tasks"] [] := FunD.bindsN F fun _ _ _ _ _ _ us hl => match us, hl with | [_, _], _ => rfl
def s_13_1 : MS := (mSeq (mExpr (mApp 6 (mIf (mOp2 eqD (.e (mCall c_8 mask_8 [] [.l 0, .t (mC (.int 7))])) (.e (mC (.int 0)))) (mC .non) (mTup [.t (mCall c_8 mask_8 [] [.l 0, .t (mV 1)]), .t (mCall c_9 mask_9 [] [.l 0, .t (mLst [.t (mC (.int 0)), .t (mC (.int 1)), .t (mFz (mCall c_8 mask_8 [] [.l 0, .t (mC (.int 10))]))])]), .t (mCall c_8 mask_8 [] [.l 0, .t (mV 2)])]))))
  RS.nx)
def s_13_2 : MS := (mSeq (mAsg (.v 6) (mLst []))
  (mSeq (mFor [] (.v 7) (mRg1 (mV 3)) s_13_1)
  (mSeq (mExpr (mApp 4 (mOp1 tupleD (.v 6))))
  RS.nx)))
def m_13 : MS := (mSeq (mPar [2, 3, 4] [.t (mOp2 addD (.e (mC (.int 1))) (.e (mCall c_8 mask_8 [] [.l 0, .t (mC (.int 4))]))), .t (mOp2 addD (.e (mC (.int 1))) (.e (mCall c_8 mask_8 [] [.l 0, .t (mC (.int 4))]))), .t (mLst [])])
  (mSeq (mFor [] (.v 5) (mRg1 (mV 2)) s_13_2)
  (mSeq (mRet (mOp1 tupleD (.v 4)))
  RS.nx)))
def c_13 : List D → RC := callF 8 mask_13 m_13
theorem b_13 {X : Cx} {W : WX} {fd : Nat → FuncData} (C : Cf X W N13 (defScope (top 13)) FR) (R : Room 2 X.A) (T : Dn X.K X.mg fd) : SSs X g0 W (lix 0 mask_13) (defBody (top 13)) m_13 := by
  have h0 : varB N13 (defScope (top 13)) 0 "box" = true := by decide +kernel
  have h1 : varB N13 (defScope (top 13)) 1 "tasks" = true := by decide +kernel
  have h2 : varB N13 (defScope (top 13)) 2 "rooms" = true := by decide +kernel
  have h3 : varB N13 (defScope (top 13)) 3 "signs" = true := by decide +kernel
  have h4 : varB N13 (defScope (top 13)) 4 "found" = true := by decide +kernel
  have h6 : varB N13 (defScope (top 13)) 6 "row" = true := by decide +kernel
  have g__law_pick : glB (defScope (top 13)) "_law_pick" = true := by decide +kernel
  have g__law_take : glB (defScope (top 13)) "_law_take" = true := by decide +kernel
  have g_range : glB (defScope (top 13)) "range" = true := by decide +kernel
  have g_tuple : glB (defScope (top 13)) "tuple" = true := by decide +kernel
  unfold m_13
  exact (sss_cons (ss_par3C C (by decide +kernel) (by decide +kernel) (by decide +kernel) (by decide) (by decide) (by decide) (sa_consT (se_add (SOp.e (se_int (g := g0) (W := W))) (SOp.e (se_call (dvs := []) (ds := []) C.tk (ok_8 T) (R.mono (by decide)) (gl_ok C.toCn g__law_take) T.m8 T.f8.kp (bind_8 T.f8) .nil (fun _ _ => .nil) (sa_consL (pv_ok C.toCn h0) (sa_consT (se_int (g := g0) (W := W)) sa_nil rfl) rfl) (by decide) rfl rfl))) (sa_consT (se_add (SOp.e (se_int (g := g0) (W := W))) (SOp.e (se_call (dvs := []) (ds := []) C.tk (ok_8 T) (R.mono (by decide)) (gl_ok C.toCn g__law_take) T.m8 T.f8.kp (bind_8 T.f8) .nil (fun _ _ => .nil) (sa_consL (pv_ok C.toCn h0) (sa_consT (se_int (g := g0) (W := W)) sa_nil rfl) rfl) (by decide) rfl rfl))) (sa_consT (se_lst (g := g0) (W := W) sa_nil) sa_nil rfl) rfl) rfl) (by kernel_rfl) (by decide))
  (sss_cons (ss_for (Ls := []) (t := (.v 5)) C.po C.calm (si_rg1 C.toCn fr_range g_range (se_v C.toCn h2) rfl) (pg_f C (by decide +kernel)) (gok_v (by decide)) (sss_cons (ss_setC C (by decide +kernel) (se_lst (g := g0) (W := W) sa_nil) (by decide) rfl)
  (sss_cons (ss_for (Ls := []) (t := (.v 7)) C.po C.calm (si_rg1 C.toCn fr_range g_range (se_v C.toCn h3) rfl) (pg_f C (by decide +kernel)) (gok_v (by decide)) (sss_cons (ss_expr (se_app C.toCn h6 (se_if (st_eq C.toCn (SOp.e (se_call (dvs := []) (ds := []) C.tk (ok_8 T) (R.mono (by decide)) (gl_ok C.toCn g__law_take) T.m8 T.f8.kp (bind_8 T.f8) .nil (fun _ _ => .nil) (sa_consL (pv_ok C.toCn h0) (sa_consT (se_int (g := g0) (W := W)) sa_nil rfl) rfl) (by decide) rfl rfl)) (SOp.e (se_int (g := g0) (W := W)))) (se_non (g := g0) (W := W)) (se_tup (g := g0) (W := W) (sa_consT (se_call (dvs := []) (ds := []) C.tk (ok_8 T) (R.mono (by decide)) (gl_ok C.toCn g__law_take) T.m8 T.f8.kp (bind_8 T.f8) .nil (fun _ _ => .nil) (sa_consL (pv_ok C.toCn h0) (sa_consT (se_v C.toCn h1) sa_nil rfl) rfl) (by decide) rfl rfl) (sa_consT (se_call (dvs := []) (ds := []) C.tk (ok_9 T) (R.mono (by decide)) (gl_ok C.toCn g__law_pick) T.m9 T.f9.kp (bind_9 T.f9) .nil (fun _ _ => .nil) (sa_consL (pv_ok C.toCn h0) (sa_consT (se_lst (g := g0) (W := W) (sa_consT (se_int (g := g0) (W := W)) (sa_consT (se_int (g := g0) (W := W)) (sa_consT (se_fz (se_call (dvs := []) (ds := []) C.tk (ok_8 T) (R.mono (by decide)) (gl_ok C.toCn g__law_take) T.m8 T.f8.kp (bind_8 T.f8) .nil (fun _ _ => .nil) (sa_consL (pv_ok C.toCn h0) (sa_consT (se_int (g := g0) (W := W)) sa_nil rfl) rfl) (by decide) rfl rfl)) sa_nil rfl) rfl) rfl)) sa_nil rfl) rfl) (by decide) rfl rfl) (sa_consT (se_call (dvs := []) (ds := []) C.tk (ok_8 T) (R.mono (by decide)) (gl_ok C.toCn g__law_take) T.m8 T.f8.kp (bind_8 T.f8) .nil (fun _ _ => .nil) (sa_consL (pv_ok C.toCn h0) (sa_consT (se_v C.toCn h2) sa_nil rfl) rfl) (by decide) rfl rfl) sa_nil rfl) rfl) rfl))) rfl rfl) rfl)
  sss_nil) (fun _ => rfl))
  (sss_cons (ss_expr (se_app C.toCn h4 (se_tuple C.toCn fr_tuple g_tuple (SOp.v C.toCn h6) rfl) rfl rfl) rfl)
  sss_nil))) (fun _ => rfl))
  (sss_cons (ss_ret (se_tuple C.toCn fr_tuple g_tuple (SOp.v C.toCn h4) rfl))
  sss_nil)))
theorem ok_13 {P : Program} {w : World} {K : PySem.W.Frag} {mg : Str → Option Value} {base : Heap} {fd : Nat → FuncData} (T : Dn K mg fd) : FnOk P w K mg base (L2.CX P w) 3 (He.fAd K d13.at_) (fd 13) ["box", "tasks"] (Prom ⟨g0, K⟩ mask_13 c_13) :=
  fn_okC T.f13 S13 rfl (by decide) T.fr fun X W e1 e2 e3 e4 e5 R C => by
    subst e1 e2 e3 e4 e5
    exact b_13 C R T
/-! ### _law_joined -/
abbrev N14 : List Str := ["one", "two", "pairs", "rooms", "turn", "row", "first", "second"]
abbrev mask_14 : List Bool := [false, false]
theorem S14 : FnScope N14 ["one", "two"] (defScope (top 14)) := ⟨rfl, rfl, rfl, by decide +kernel, rfl, by decide +kernel, by decide +kernel⟩
theorem bind_14 {K : PySem.W.Frag} {f : Addr} {fd : FuncData} (F : FunD K d14.name d14.qual d14.params d14.body d14.scope (d14.dvs K) (d14.kws K) f fd) : Binds K fd ["one", "two"] [] := FunD.bindsN F fun _ _ _ _ _ _ us hl => match us, hl with | [_, _], _ => rfl
def s_14_1 : MS := (mSeq (mIfS (mTOr (mOp1 (fun d => some (.bl (isN d))) (.v 6)) (mTOr (mOp1 (fun d => some (.bl (isN d))) (.v 7)) (mOp2 neD (.e (mOp2 ixD (.v 6) (.e (mC (.int 0))))) (.e (mOp2 ixD (.v 7) (.e (mC (.int 0)))))))) (mSeq (mExpr (mApp 5 (mC .non)))
  (mSeq RS.ct
  RS.nx)) RS.nx)
  (mSeq (mIfS (mOp2 notinB (.e (mTup [.t (mOp2 ixD (.v 6) (.e (mC (.int 2)))), .t (mOp2 ixD (.v 7) (.e (mC (.int 2))))])) (.v 2)) (mSeq (mExpr (mApp 2 (mTup [.t (mOp2 ixD (.v 6) (.e (mC (.int 2)))), .t (mOp2 ixD (.v 7) (.e (mC (.int 2))))])))
  RS.nx) RS.nx)
  (mSeq (mExpr (mApp 5 (mTup [.t (mOp2 ixD (.v 6) (.e (mC (.int 0)))), .t (mTup [.t (mOp2 ixD (.v 6) (.e (mC (.int 1)))), .t (mOp2 ixD (.v 7) (.e (mC (.int 1))))]), .t (mIdx 2 (.e (mTup [.t (mOp2 ixD (.v 6) (.e (mC (.int 2)))), .t (mOp2 ixD (.v 7) (.e (mC (.int 2))))])))])))
  RS.nx)))
def s_14_2 : MS := (mSeq (mFor [] (.v 7) (mIt (mOp2 ixD (.v 1) (.e (mOp2 ixD (.e (mOp2 ixD (.v 2) (.v 4))) (.e (mC (.int 1))))))) s_14_1)
  RS.nx)
def s_14_3 : MS := (mSeq (mIfS (mOp2 (cmpD fun i j => decide (j ≤ i)) (.v 4) (.e (mOp1 lenD (.v 2)))) (mSeq RS.bk
  RS.nx) RS.nx)
  (mSeq (mAsg (.v 5) (mLst []))
  (mSeq (mFor [] (.v 6) (mIt (mOp2 ixD (.v 0) (.e (mOp2 ixD (.e (mOp2 ixD (.v 2) (.v 4))) (.e (mC (.int 0))))))) s_14_2)
  (mSeq (mExpr (mApp 3 (mOp1 tupleD (.v 5))))
  RS.nx))))
def m_14 : MS := (mSeq (mPar [2, 3] [.t (mLst [.t (mTup [.t (mC (.int 0)), .t (mC (.int 0))])]), .t (mLst [])])
  (mSeq (mFor [] (.v 4) (mRg1 (mOp2 mulD (.e (mOp1 lenD (.v 0))) (.e (mOp1 lenD (.v 1))))) s_14_3)
  (mSeq (mRet (mTup [.t (mOp1 tupleD (.v 3)), .t (mV 2)]))
  RS.nx)))
def c_14 : List D → RC := callF 8 mask_14 m_14
theorem b_14 {X : Cx} {W : WX} {fd : Nat → FuncData} (C : Cf X W N14 (defScope (top 14)) FR) (R : Room 0 X.A) (T : Dn X.K X.mg fd) : SSs X g0 W (lix 0 mask_14) (defBody (top 14)) m_14 := by
  have h0 : varB N14 (defScope (top 14)) 0 "one" = true := by decide +kernel
  have h1 : varB N14 (defScope (top 14)) 1 "two" = true := by decide +kernel
  have h2 : varB N14 (defScope (top 14)) 2 "pairs" = true := by decide +kernel
  have h3 : varB N14 (defScope (top 14)) 3 "rooms" = true := by decide +kernel
  have h4 : varB N14 (defScope (top 14)) 4 "turn" = true := by decide +kernel
  have h5 : varB N14 (defScope (top 14)) 5 "row" = true := by decide +kernel
  have h6 : varB N14 (defScope (top 14)) 6 "first" = true := by decide +kernel
  have h7 : varB N14 (defScope (top 14)) 7 "second" = true := by decide +kernel
  have g_len : glB (defScope (top 14)) "len" = true := by decide +kernel
  have g_range : glB (defScope (top 14)) "range" = true := by decide +kernel
  have g_tuple : glB (defScope (top 14)) "tuple" = true := by decide +kernel
  unfold m_14
  exact (sss_cons (ss_parC C (by decide +kernel) (by decide +kernel) (by decide) (sa_consT (se_lst (g := g0) (W := W) (sa_consT (se_tup (g := g0) (W := W) (sa_consT (se_int (g := g0) (W := W)) (sa_consT (se_int (g := g0) (W := W)) sa_nil rfl) rfl)) sa_nil rfl)) (sa_consT (se_lst (g := g0) (W := W) sa_nil) sa_nil rfl) rfl) (by kernel_rfl) (by decide))
  (sss_cons (ss_for (Ls := []) (t := (.v 4)) C.po C.calm (si_rg1 C.toCn fr_range g_range (se_mul (SOp.e (se_len C.toCn fr_len g_len (SOp.v C.toCn h0) rfl)) (SOp.e (se_len C.toCn fr_len g_len (SOp.v C.toCn h1) rfl))) rfl) (pg_f C (by decide +kernel)) (gok_v (by decide)) (sss_cons (ss_if (st_ge (SOp.v C.toCn h4) (SOp.e (se_len C.toCn fr_len g_len (SOp.v C.toCn h2) rfl))) (sss_cons ss_break
  sss_nil) sss_nil)
  (sss_cons (ss_setC C (by decide +kernel) (se_lst (g := g0) (W := W) sa_nil) (by decide) rfl)
  (sss_cons (ss_for (Ls := []) (t := (.v 6)) C.po C.calm (si_seq (se_ix C.toCn (SOp.v C.toCn h0) (SOp.e (se_ix C.toCn (SOp.e (se_ix C.toCn (SOp.v C.toCn h2) (SOp.v C.toCn h4) (fun _ _ => rfl))) (SOp.e (se_int (g := g0) (W := W))) (fun _ _ => rfl))) (fun _ _ => rfl))) (pg_f C (by decide +kernel)) (gok_v (by decide)) (sss_cons (ss_for (Ls := []) (t := (.v 7)) C.po C.calm (si_seq (se_ix C.toCn (SOp.v C.toCn h1) (SOp.e (se_ix C.toCn (SOp.e (se_ix C.toCn (SOp.v C.toCn h2) (SOp.v C.toCn h4) (fun _ _ => rfl))) (SOp.e (se_int (g := g0) (W := W))) (fun _ _ => rfl))) (fun _ _ => rfl))) (pg_f C (by decide +kernel)) (gok_v (by decide)) (sss_cons (ss_if (st_bool (sw_or (st_isN (SOp.v C.toCn h6)) (sw_or (st_isN (SOp.v C.toCn h7)) (sw_or1 (st_ne C.toCn (SOp.e (se_ix C.toCn (SOp.v C.toCn h6) (SOp.e (se_int (g := g0) (W := W))) (fun _ _ => rfl))) (SOp.e (se_ix C.toCn (SOp.v C.toCn h7) (SOp.e (se_int (g := g0) (W := W))) (fun _ _ => rfl)))))))) (sss_cons (ss_expr (se_app C.toCn h5 (se_non (g := g0) (W := W)) rfl rfl) rfl)
  (sss_cons ss_continue
  sss_nil)) sss_nil)
  (sss_cons (ss_if (st_notin C.toCn (SOp.e (se_tup (g := g0) (W := W) (sa_consT (se_ix C.toCn (SOp.v C.toCn h6) (SOp.e (se_int (g := g0) (W := W))) (fun _ _ => rfl)) (sa_consT (se_ix C.toCn (SOp.v C.toCn h7) (SOp.e (se_int (g := g0) (W := W))) (fun _ _ => rfl)) sa_nil rfl) rfl))) (SOp.v C.toCn h2) rfl) (sss_cons (ss_expr (se_app C.toCn h2 (se_tup (g := g0) (W := W) (sa_consT (se_ix C.toCn (SOp.v C.toCn h6) (SOp.e (se_int (g := g0) (W := W))) (fun _ _ => rfl)) (sa_consT (se_ix C.toCn (SOp.v C.toCn h7) (SOp.e (se_int (g := g0) (W := W))) (fun _ _ => rfl)) sa_nil rfl) rfl)) rfl rfl) rfl)
  sss_nil) sss_nil)
  (sss_cons (ss_expr (se_app C.toCn h5 (se_tup (g := g0) (W := W) (sa_consT (se_ix C.toCn (SOp.v C.toCn h6) (SOp.e (se_int (g := g0) (W := W))) (fun _ _ => rfl)) (sa_consT (se_tup (g := g0) (W := W) (sa_consT (se_ix C.toCn (SOp.v C.toCn h6) (SOp.e (se_int (g := g0) (W := W))) (fun _ _ => rfl)) (sa_consT (se_ix C.toCn (SOp.v C.toCn h7) (SOp.e (se_int (g := g0) (W := W))) (fun _ _ => rfl)) sa_nil rfl) rfl)) (sa_consT (se_index C.toCn h2 (SOp.e (se_tup (g := g0) (W := W) (sa_consT (se_ix C.toCn (SOp.v C.toCn h6) (SOp.e (se_int (g := g0) (W := W))) (fun _ _ => rfl)) (sa_consT (se_ix C.toCn (SOp.v C.toCn h7) (SOp.e (se_int (g := g0) (W := W))) (fun _ _ => rfl)) sa_nil rfl) rfl))) rfl rfl) sa_nil rfl) rfl) rfl)) rfl rfl) rfl)
  sss_nil))) (fun _ => rfl))
  sss_nil) (fun _ => rfl))
  (sss_cons (ss_expr (se_app C.toCn h3 (se_tuple C.toCn fr_tuple g_tuple (SOp.v C.toCn h5) rfl) rfl rfl) rfl)
  sss_nil)))) (fun _ => rfl))
  (sss_cons (ss_ret (se_tup (g := g0) (W := W) (sa_consT (se_tuple C.toCn fr_tuple g_tuple (SOp.v C.toCn h3) rfl) (sa_consT (se_v C.toCn h2) sa_nil rfl) rfl)))
  sss_nil)))
theorem ok_14 {P : Program} {w : World} {K : PySem.W.Frag} {mg : Str → Option Value} {base : Heap} {fd : Nat → FuncData} (T : Dn K mg fd) : FnOk P w K mg base (L2.CX P w) 1 (He.fAd K d14.at_) (fd 14) ["one", "two"] (Prom ⟨g0, K⟩ mask_14 c_14) :=
  fn_okC T.f14 S14 rfl (by decide) T.fr fun X W e1 e2 e3 e4 e5 R C => by
    subst e1 e2 e3 e4 e5
    exact b_14 C R T
/-! ### _law_row_right -/
abbrev N15 : List Str := ["box", "one", "two", "book", "pairs", "room", "many", "row", "turn", "x", "y", "first", "second"]
abbrev mask_15 : List Bool := [true, false, false, false, false]
theorem S15 : FnScope N15 ["box", "one", "two", "book", "pairs"] (defScope (top 15)) := ⟨rfl, rfl, rfl, by decide +kernel, rfl, by decide +kernel, by decide +kernel⟩
theorem bind_15 {K : PySem.W.Frag} {f : Addr} {fd : FuncData} (F : FunD K d15.name d15.qual d15.params d15.body d15.scope (d15.dvs K) (d15.kws K) f fd) : Binds K fd ["box", "one", "two", "book", "pairs"] [] := FunD.bindsN F fun _ _ _ _ _ _ us hl => match us, hl with | [_, _, _, _, _], _ => rfl
def s_15_1 : MS := (mSeq (mPar [9, 10] [.t (mCall c_8 mask_8 [] [.l 0, .t (mOp1 lenD (.e (mOp2 ixD (.v 1) (.e (mC (.int 0))))))]), .t (mCall c_8 mask_8 [] [.l 0, .t (mV 6)])])
  (mSeq (mPar [11, 12] [.t (mOp2 ixD (.e (mOp2 ixD (.v 1) (.e (mOp2 ixD (.v 5) (.e (mC (.int 0))))))) (.v 9)), .t (mOp2 ixD (.e (mOp2 ixD (.v 2) (.e (mOp2 ixD (.v 5) (.e (mC (.int 1))))))) (.v 10))])
  (mSeq (mAsg (.v 7) (mOp2 addD (.v 7) (.e (mTup [.t (mOp2 addD (.e (mOp2 mulD (.v 9) (.v 6))) (.v 10))]))))
  (mSeq (mIfS (mTOr (mOp1 (fun d => some (.bl (isN d))) (.v 11)) (mTOr (mOp1 (fun d => some (.bl (isN d))) (.v 12)) (mOp2 neD (.e (mOp2 ixD (.v 11) (.e (mC (.int 0))))) (.e (mOp2 ixD (.v 12) (.e (mC (.int 0)))))))) (mSeq (mRet (mOp1 (fun d => some (.bl (isN d))) (.e (mCall c_2 mask_2 [] [.t (mV 3), .t (mV 7)]))))
  RS.nx) RS.nx)
  (mSeq (mAsg (.v 5) (mTup [.t (mOp2 ixD (.v 11) (.e (mC (.int 2)))), .t (mOp2 ixD (.v 12) (.e (mC (.int 2))))]))
  (mSeq (mIfS (mTNot (mTru (.e (mCall (c_10 40) mask_10 [] [.t (mCall c_2 mask_2 [] [.t (mV 3), .t (mV 7)]), .t (mIdx 4 (.v 5))])))) (mSeq (mRet (mC (.bl false)))
  RS.nx) RS.nx)
  RS.nx))))))
def m_15 : MS := (mSeq (mPar [5, 6] [.t (mTup [.t (mC (.int 0)), .t (mC (.int 0))]), .t (mOp1 lenD (.e (mOp2 ixD (.v 2) (.e (mC (.int 0))))))])
  (mSeq (mAsg (.v 7) (mTup []))
  (mSeq (mFor [] (.v 8) (mRg1 (mC (.int 8))) s_15_1)
  (mSeq (mRet (mC (.bl true)))
  RS.nx))))
def c_15 : List D → RC := callF 13 mask_15 m_15
theorem b_15 {X : Cx} {W : WX} {fd : Nat → FuncData} (C : Cf X W N15 (defScope (top 15)) FR) (R : Room 40 X.A) (T : Dn X.K X.mg fd) : SSs X g0 W (lix 0 mask_15) (defBody (top 15)) m_15 := by
  have h0 : varB N15 (defScope (top 15)) 0 "box" = true := by decide +kernel
  have h1 : varB N15 (defScope (top 15)) 1 "one" = true := by decide +kernel
  have h2 : varB N15 (defScope (top 15)) 2 "two" = true := by decide +kernel
  have h3 : varB N15 (defScope (top 15)) 3 "book" = true := by decide +kernel
  have h4 : varB N15 (defScope (top 15)) 4 "pairs" = true := by decide +kernel
  have h5 : varB N15 (defScope (top 15)) 5 "room" = true := by decide +kernel
  have h6 : varB N15 (defScope (top 15)) 6 "many" = true := by decide +kernel
  have h7 : varB N15 (defScope (top 15)) 7 "row" = true := by decide +kernel
  have h9 : varB N15 (defScope (top 15)) 9 "x" = true := by decide +kernel
  have h10 : varB N15 (defScope (top 15)) 10 "y" = true := by decide +kernel
  have h11 : varB N15 (defScope (top 15)) 11 "first" = true := by decide +kernel
  have h12 : varB N15 (defScope (top 15)) 12 "second" = true := by decide +kernel
  have g__law_same : glB (defScope (top 15)) "_law_same" = true := by decide +kernel
  have g__law_take : glB (defScope (top 15)) "_law_take" = true := by decide +kernel
  have g_len : glB (defScope (top 15)) "len" = true := by decide +kernel
  have g_range : glB (defScope (top 15)) "range" = true := by decide +kernel
  have g_row_room : glB (defScope (top 15)) "row_room" = true := by decide +kernel
  unfold m_15
  exact (sss_cons (ss_parC C (by decide +kernel) (by decide +kernel) (by decide) (sa_consT (se_tup (g := g0) (W := W) (sa_consT (se_int (g := g0) (W := W)) (sa_consT (se_int (g := g0) (W := W)) sa_nil rfl) rfl)) (sa_consT (se_len C.toCn fr_len g_len (SOp.e (se_ix C.toCn (SOp.v C.toCn h2) (SOp.e (se_int (g := g0) (W := W))) (fun _ _ => rfl))) rfl) sa_nil rfl) rfl) (by kernel_rfl) (by decide))
  (sss_cons (ss_setC C (by decide +kernel) (se_tup (g := g0) (W := W) sa_nil) (by decide) rfl)
  (sss_cons (ss_for (Ls := []) (t := (.v 8)) C.po C.calm (si_rg1 C.toCn fr_range g_range (se_int (g := g0) (W := W)) rfl) (pg_f C (by decide +kernel)) (gok_v (by decide)) (sss_cons (ss_parC C (by decide +kernel) (by decide +kernel) (by decide) (sa_consT (se_call (dvs := []) (ds := []) C.tk (ok_8 T) (R.mono (by decide)) (gl_ok C.toCn g__law_take) T.m8 T.f8.kp (bind_8 T.f8) .nil (fun _ _ => .nil) (sa_consL (pv_ok C.toCn h0) (sa_consT (se_len C.toCn fr_len g_len (SOp.e (se_ix C.toCn (SOp.v C.toCn h1) (SOp.e (se_int (g := g0) (W := W))) (fun _ _ => rfl))) rfl) sa_nil rfl) rfl) (by decide) rfl rfl) (sa_consT (se_call (dvs := []) (ds := []) C.tk (ok_8 T) (R.mono (by decide)) (gl_ok C.toCn g__law_take) T.m8 T.f8.kp (bind_8 T.f8) .nil (fun _ _ => .nil) (sa_consL (pv_ok C.toCn h0) (sa_consT (se_v C.toCn h6) sa_nil rfl) rfl) (by decide) rfl rfl) sa_nil rfl) rfl) (by kernel_rfl) (by decide))
  (sss_cons (ss_parC C (by decide +kernel) (by decide +kernel) (by decide) (sa_consT (se_ix C.toCn (SOp.e (se_ix C.toCn (SOp.v C.toCn h1) (SOp.e (se_ix C.toCn (SOp.v C.toCn h5) (SOp.e (se_int (g := g0) (W := W))) (fun _ _ => rfl))) (fun _ _ => rfl))) (SOp.v C.toCn h9) (fun _ _ => rfl)) (sa_consT (se_ix C.toCn (SOp.e (se_ix C.toCn (SOp.v C.toCn h2) (SOp.e (se_ix C.toCn (SOp.v C.toCn h5) (SOp.e (se_int (g := g0) (W := W))) (fun _ _ => rfl))) (fun _ _ => rfl))) (SOp.v C.toCn h10) (fun _ _ => rfl)) sa_nil rfl) rfl) (by kernel_rfl) (by decide))
  (sss_cons (ss_setC C (by decide +kernel) (se_add (SOp.v C.toCn h7) (SOp.e (se_tup (g := g0) (W := W) (sa_consT (se_add (SOp.e (se_mul (SOp.v C.toCn h9) (SOp.v C.toCn h6))) (SOp.v C.toCn h10)) sa_nil rfl)))) (by decide) rfl)
  (sss_cons (ss_if (st_bool (sw_or (st_isN (SOp.v C.toCn h11)) (sw_or (st_isN (SOp.v C.toCn h12)) (sw_or1 (st_ne C.toCn (SOp.e (se_ix C.toCn (SOp.v C.toCn h11) (SOp.e (se_int (g := g0) (W := W))) (fun _ _ => rfl))) (SOp.e (se_ix C.toCn (SOp.v C.toCn h12) (SOp.e (se_int (g := g0) (W := W))) (fun _ _ => rfl)))))))) (sss_cons (ss_ret (se_isN (SOp.e (se_call (dvs := []) (ds := []) C.tk (ok_2 T) (R.mono (by decide)) (gl_ok C.toCn g_row_room) T.m2 T.f2.kp (bind_2 T.f2) .nil (fun _ _ => .nil) (sa_consT (se_v C.toCn h3) (sa_consT (se_v C.toCn h7) sa_nil rfl) rfl) (by decide) rfl rfl))))
  sss_nil) sss_nil)
  (sss_cons (ss_setC C (by decide +kernel) (se_tup (g := g0) (W := W) (sa_consT (se_ix C.toCn (SOp.v C.toCn h11) (SOp.e (se_int (g := g0) (W := W))) (fun _ _ => rfl)) (sa_consT (se_ix C.toCn (SOp.v C.toCn h12) (SOp.e (se_int (g := g0) (W := W))) (fun _ _ => rfl)) sa_nil rfl) rfl)) (by decide) rfl)
  (sss_cons (ss_if (st_not (st_tru (SOp.e (se_call (dvs := []) (ds := []) C.tk (ok_10 T 40) (R.mono (by decide)) (gl_ok C.toCn g__law_same) T.m10 T.f10.kp (bind_10 T.f10) .nil (fun _ _ => .nil) (sa_consT (se_call (dvs := []) (ds := []) C.tk (ok_2 T) (R.mono (by decide)) (gl_ok C.toCn g_row_room) T.m2 T.f2.kp (bind_2 T.f2) .nil (fun _ _ => .nil) (sa_consT (se_v C.toCn h3) (sa_consT (se_v C.toCn h7) sa_nil rfl) rfl) (by decide) rfl rfl) (sa_consT (se_index C.toCn h4 (SOp.v C.toCn h5) rfl rfl) sa_nil rfl) rfl) (by decide) rfl rfl)) (fun _ => rfl))) (sss_cons (ss_ret (se_bl (g := g0) (W := W)))
  sss_nil) sss_nil)
  sss_nil)))))) (fun _ => rfl))
  (sss_cons (ss_ret (se_bl (g := g0) (W := W)))
  sss_nil))))
theorem ok_15 {P : Program} {w : World} {K : PySem.W.Frag} {mg : Str → Option Value} {base : Heap} {fd : Nat → FuncData} (T : Dn K mg fd) : FnOk P w K mg base (L2.CX P w) 41 (He.fAd K d15.at_) (fd 15) ["box", "one", "two", "book", "pairs"] (Prom ⟨g0, K⟩ mask_15 c_15) :=
  fn_okC T.f15 S15 rfl (by decide) T.fr fun X W e1 e2 e3 e4 e5 R C => by
    subst e1 e2 e3 e4 e5
    exact b_15 C R T
/-! ### law -/
abbrev N16 : List Str := ["script", "k", "box", "tasks", "mine", "theirs", "one", "two", "book", "pairs", "told", "turn"]
abbrev mask_16 : List Bool := [false]
theorem S16 : FnScope N16 ["script"] (defScope (top 16)) := ⟨rfl, rfl, rfl, by decide +kernel, rfl, by decide +kernel, by decide +kernel⟩
theorem bind_16 {K : PySem.W.Frag} {f : Addr} {fd : FuncData} (F : FunD K d16.name d16.qual d16.params d16.body d16.scope (d16.dvs K) (d16.kws K) f fd) : Binds K fd ["script"] [] := FunD.bindsN F fun _ _ _ _ _ _ us hl => match us, hl with | [_], _ => rfl
def s_16_1 : MS := (mSeq (mIfS (mTNot (mTru (.e (mCall c_15 mask_15 [] [.l 2, .t (mV 6), .t (mV 7), .t (mOp2 ixD (.v 10) (.e (mC (.int 2)))), .t (mV 9)])))) (mSeq (mRet (mC (.bl false)))
  RS.nx) RS.nx)
  RS.nx)
def s_16_2 : MS := (mSeq (mAsg (.v 2) (mCall c_7 mask_7 [] [.t (mV 0), .t (mV 1)]))
  (mSeq (mAsg (.v 3) (mOp2 addD (.e (mC (.int 1))) (.e (mCall c_8 mask_8 [] [.l 2, .t (mC (.int 3))]))))
  (mSeq (mPar [4, 5] [.t (mCall c_12 mask_12 [] [.l 2, .t (mOp2 addD (.e (mC (.int 1))) (.e (mCall c_8 mask_8 [] [.l 2, .t (mC (.int 3))]))), .t (mV 3), .t (mC (.int 9))]), .t (mCall c_12 mask_12 [] [.l 2, .t (mOp2 addD (.e (mC (.int 1))) (.e (mCall c_8 mask_8 [] [.l 2, .t (mC (.int 3))]))), .t (mV 3), .t (mC (.int 9))])])
  (mSeq (mPar [6, 7] [.t (mCall c_13 mask_13 [] [.l 2, .t (mV 3)]), .t (mCall c_13 mask_13 [] [.l 2, .t (mV 3)])])
  (mSeq (mAsg (.t [(.v 8), (.v 9)]) (mCall c_14 mask_14 [] [.t (mV 6), .t (mV 7)]))
  (mSeq (mAsg (.v 10) (mIf (mOp2 (cmpD fun i j => decide (j < i)) (.v 1) (.e (mC (.int 0)))) (mCall c_5 mask_5 [] [.t (mV 4), .t (mV 5), .t (mV 6), .t (mV 7)]) (mCallK c_5 [] [.a 0, .a 1, .a 2, .a 3] [(mV 4), (mV 5), (mV 6), (mV 7)])))
  (mSeq (mIfS (mTNot (mTru (.e (mCall (c_10 40) mask_10 [] [.t (mV 10), .t (mTup [.t (mV 4), .t (mV 5), .t (mV 8)])])))) (mSeq (mRet (mC (.bl false)))
  RS.nx) RS.nx)
  (mSeq (mFor [] (.v 11) (mRg1 (mC (.int 4))) s_16_1)
  RS.nx))))))))
def m_16 : MS := (mSeq (mFor [] (.v 1) (mRg1 (mOp2 max2D (.e (mC (.int 5))) (.e (mOp2 min2D (.e (mOp1 lenD (.v 0))) (.e (mC (.int 10))))))) s_16_2)
  (mSeq (mRet (mC (.bl true)))
  RS.nx))
def c_16 : List D → RC := callF 12 mask_16 m_16
theorem b_16 {X : Cx} {W : WX} {fd : Nat → FuncData} (C : Cf X W N16 (defScope (top 16)) FR) (R : Room 41 X.A) (T : Dn X.K X.mg fd) : SSs X g0 W (lix 0 mask_16) (defBody (top 16)) m_16 := by
  have h0 : varB N16 (defScope (top 16)) 0 "script" = true := by decide +kernel
  have h1 : varB N16 (defScope (top 16)) 1 "k" = true := by decide +kernel
  have h2 : varB N16 (defScope (top 16)) 2 "box" = true := by decide +kernel
  have h3 : varB N16 (defScope (top 16)) 3 "tasks" = true := by decide +kernel
  have h4 : varB N16 (defScope (top 16)) 4 "mine" = true := by decide +kernel
  have h5 : varB N16 (defScope (top 16)) 5 "theirs" = true := by decide +kernel
  have h6 : varB N16 (defScope (top 16)) 6 "one" = true := by decide +kernel
  have h7 : varB N16 (defScope (top 16)) 7 "two" = true := by decide +kernel
  have h8 : varB N16 (defScope (top 16)) 8 "book" = true := by decide +kernel
  have h9 : varB N16 (defScope (top 16)) 9 "pairs" = true := by decide +kernel
  have h10 : varB N16 (defScope (top 16)) 10 "told" = true := by decide +kernel
  have g__law_box : glB (defScope (top 16)) "_law_box" = true := by decide +kernel
  have g__law_joined : glB (defScope (top 16)) "_law_joined" = true := by decide +kernel
  have g__law_row_right : glB (defScope (top 16)) "_law_row_right" = true := by decide +kernel
  have g__law_same : glB (defScope (top 16)) "_law_same" = true := by decide +kernel
  have g__law_service : glB (defScope (top 16)) "_law_service" = true := by decide +kernel
  have g__law_take : glB (defScope (top 16)) "_law_take" = true := by decide +kernel
  have g__law_words : glB (defScope (top 16)) "_law_words" = true := by decide +kernel
  have g_joined_words : glB (defScope (top 16)) "joined_words" = true := by decide +kernel
  have g_len : glB (defScope (top 16)) "len" = true := by decide +kernel
  have g_max : glB (defScope (top 16)) "max" = true := by decide +kernel
  have g_min : glB (defScope (top 16)) "min" = true := by decide +kernel
  have g_range : glB (defScope (top 16)) "range" = true := by decide +kernel
  unfold m_16
  exact (sss_cons (ss_for (Ls := []) (t := (.v 1)) C.po C.calm (si_rg1 C.toCn fr_range g_range (se_max2 C.toCn fr_max g_max (SOp.e (se_int (g := g0) (W := W))) (SOp.e (se_min2 C.toCn fr_min g_min (SOp.e (se_len C.toCn fr_len g_len (SOp.v C.toCn h0) rfl)) (SOp.e (se_int (g := g0) (W := W))) rfl rfl rfl)) rfl rfl rfl) rfl) (pg_f C (by decide +kernel)) (gok_v (by decide)) (sss_cons (ss_setC C (by decide +kernel) (se_call (dvs := []) (ds := []) C.tk (ok_7 T) (R.mono (by decide)) (gl_ok C.toCn g__law_box) T.m7 T.f7.kp (bind_7 T.f7) .nil (fun _ _ => .nil) (sa_consT (se_v C.toCn h0) (sa_consT (se_v C.toCn h1) sa_nil rfl) rfl) (by decide) rfl rfl) (by decide) rfl)
  (sss_cons (ss_setC C (by decide +kernel) (se_add (SOp.e (se_int (g := g0) (W := W))) (SOp.e (se_call (dvs := []) (ds := []) C.tk (ok_8 T) (R.mono (by decide)) (gl_ok C.toCn g__law_take) T.m8 T.f8.kp (bind_8 T.f8) .nil (fun _ _ => .nil) (sa_consL (pv_ok C.toCn h2) (sa_consT (se_int (g := g0) (W := W)) sa_nil rfl) rfl) (by decide) rfl rfl))) (by decide) rfl)
  (sss_cons (ss_parC C (by decide +kernel) (by decide +kernel) (by decide) (sa_consT (se_call (dvs := []) (ds := []) C.tk (ok_12 T) (R.mono (by decide)) (gl_ok C.toCn g__law_service) T.m12 T.f12.kp (bind_12 T.f12) .nil (fun _ _ => .nil) (sa_consL (pv_ok C.toCn h2) (sa_consT (se_add (SOp.e (se_int (g := g0) (W := W))) (SOp.e (se_call (dvs := []) (ds := []) C.tk (ok_8 T) (R.mono (by decide)) (gl_ok C.toCn g__law_take) T.m8 T.f8.kp (bind_8 T.f8) .nil (fun _ _ => .nil) (sa_consL (pv_ok C.toCn h2) (sa_consT (se_int (g := g0) (W := W)) sa_nil rfl) rfl) (by decide) rfl rfl))) (sa_consT (se_v C.toCn h3) (sa_consT (se_int (g := g0) (W := W)) sa_nil rfl) rfl) rfl) rfl) (by decide) rfl rfl) (sa_consT (se_call (dvs := []) (ds := []) C.tk (ok_12 T) (R.mono (by decide)) (gl_ok C.toCn g__law_service) T.m12 T.f12.kp (bind_12 T.f12) .nil (fun _ _ => .nil) (sa_consL (pv_ok C.toCn h2) (sa_consT (se_add (SOp.e (se_int (g := g0) (W := W))) (SOp.e (se_call (dvs := []) (ds := []) C.tk (ok_8 T) (R.mono (by decide)) (gl_ok C.toCn g__law_take) T.m8 T.f8.kp (bind_8 T.f8) .nil (fun _ _ => .nil) (sa_consL (pv_ok C.toCn h2) (sa_consT (se_int (g := g0) (W := W)) sa_nil rfl) rfl) (by decide) rfl rfl))) (sa_consT (se_v C.toCn h3) (sa_consT (se_int (g := g0) (W := W)) sa_nil rfl) rfl) rfl) rfl) (by decide) rfl rfl) sa_nil rfl) rfl) (by kernel_rfl) (by decide))
  (sss_cons (ss_parC C (by decide +kernel) (by decide +kernel) (by decide) (sa_consT (se_call (dvs := []) (ds := []) C.tk (ok_13 T) (R.mono (by decide)) (gl_ok C.toCn g__law_words) T.m13 T.f13.kp (bind_13 T.f13) .nil (fun _ _ => .nil) (sa_consL (pv_ok C.toCn h2) (sa_consT (se_v C.toCn h3) sa_nil rfl) rfl) (by decide) rfl rfl) (sa_consT (se_call (dvs := []) (ds := []) C.tk (ok_13 T) (R.mono (by decide)) (gl_ok C.toCn g__law_words) T.m13 T.f13.kp (bind_13 T.f13) .nil (fun _ _ => .nil) (sa_consL (pv_ok C.toCn h2) (sa_consT (se_v C.toCn h3) sa_nil rfl) rfl) (by decide) rfl rfl) sa_nil rfl) rfl) (by kernel_rfl) (by decide))
  (sss_cons (ss_asgC C (se_call (dvs := []) (ds := []) C.tk (ok_14 T) (R.mono (by decide)) (gl_ok C.toCn g__law_joined) T.m14 T.f14.kp (bind_14 T.f14) .nil (fun _ _ => .nil) (sa_consT (se_v C.toCn h6) (sa_consT (se_v C.toCn h7) sa_nil rfl) rfl) (by decide) rfl rfl) (pg_tup C.toCn.calm (pgs_cons (pg_f C (by decide +kernel)) (pgs_cons (pg_f C (by decide +kernel)) pgs_nil))) (gok_t rfl rfl (gsok_cons (gok_v (by decide)) (gsok_cons (gok_v (by decide)) gsok_nil))) rfl (by kernel_rfl) rfl)
  (sss_cons (ss_setC C (by decide +kernel) (se_if (st_gt (SOp.v C.toCn h1) (SOp.e (se_int (g := g0) (W := W)))) (se_call (dvs := []) (ds := []) C.tk (ok_5 T) (R.mono (by decide)) (gl_ok C.toCn g_joined_words) T.m5 T.f5.kp (bind_5 T.f5) .nil (fun _ _ => .nil) (sa_consT (se_v C.toCn h4) (sa_consT (se_v C.toCn h5) (sa_consT (se_v C.toCn h6) (sa_consT (se_v C.toCn h7) sa_nil rfl) rfl) rfl) rfl) (by decide) rfl rfl) (se_callK0 (dvs := []) (dus := []) C.tk (ok_5 T) (R.mono (by decide)) (gl_ok C.toCn g_joined_words) T.m5 T.f5.kp (kb_5_0 T.f5) (fun _ _ => .nil) rfl rfl (sk_cons (se_v C.toCn h4) (sk_cons (se_v C.toCn h5) (sk_cons (se_v C.toCn h6) (sk_cons (se_v C.toCn h7) sk_nil)))) rfl rfl (by decide) rfl)) (by decide) rfl)
  (sss_cons (ss_if (st_not (st_tru (SOp.e (se_call (dvs := []) (ds := []) C.tk (ok_10 T 40) (R.mono (by decide)) (gl_ok C.toCn g__law_same) T.m10 T.f10.kp (bind_10 T.f10) .nil (fun _ _ => .nil) (sa_consT (se_v C.toCn h10) (sa_consT (se_tup (g := g0) (W := W) (sa_consT (se_v C.toCn h4) (sa_consT (se_v C.toCn h5) (sa_consT (se_v C.toCn h8) sa_nil rfl) rfl) rfl)) sa_nil rfl) rfl) (by decide) rfl rfl)) (fun _ => rfl))) (sss_cons (ss_ret (se_bl (g := g0) (W := W)))
  sss_nil) sss_nil)
  (sss_cons (ss_for (Ls := []) (t := (.v 11)) C.po C.calm (si_rg1 C.toCn fr_range g_range (se_int (g := g0) (W := W)) rfl) (pg_f C (by decide +kernel)) (gok_v (by decide)) (sss_cons (ss_if (st_not (st_tru (SOp.e (se_call (dvs := []) (ds := []) C.tk (ok_15 T) (R.mono (by decide)) (gl_ok C.toCn g__law_row_right) T.m15 T.f15.kp (bind_15 T.f15) .nil (fun _ _ => .nil) (sa_consL (pv_ok C.toCn h2) (sa_consT (se_v C.toCn h6) (sa_consT (se_v C.toCn h7) (sa_consT (se_ix C.toCn (SOp.v C.toCn h10) (SOp.e (se_int (g := g0) (W := W))) (fun _ _ => rfl)) (sa_consT (se_v C.toCn h9) sa_nil rfl) rfl) rfl) rfl) rfl) (by decide) rfl rfl)) (fun _ => rfl))) (sss_cons (ss_ret (se_bl (g := g0) (W := W)))
  sss_nil) sss_nil)
  sss_nil) (fun _ => rfl))
  sss_nil)))))))) (fun _ => rfl))
  (sss_cons (ss_ret (se_bl (g := g0) (W := W)))
  sss_nil))
theorem ok_16 {P : Program} {w : World} {K : PySem.W.Frag} {mg : Str → Option Value} {base : Heap} {fd : Nat → FuncData} (T : Dn K mg fd) : FnOk P w K mg base (L2.CX P w) 42 (He.fAd K d16.at_) (fd 16) ["script"] (Prom ⟨g0, K⟩ mask_16 c_16) :=
  fn_okC T.f16 S16 rfl (by decide) T.fr fun X W e1 e2 e3 e4 e5 R C => by
    subst e1 e2 e3 e4 e5
    exact b_16 C R T
end LW

namespace LW
open PySem PySem.Spec L2 EV
abbrev bx (a b : Int) : D := .lst true [.int a, .int b]
theorem at0 {d : D} {ds : List D} : atI (d :: ds) 0 = some d := by simp [atI, ixN]
theorem at1 {d d1 : D} {ds : List D} : atI (d :: d1 :: ds) 1 = some d1 := by
  have : (1 : Int) < (ds.length : Int) + 1 + 1 := by omega
  simp [atI, ixN, this]
theorem at2 {d d1 d2 : D} {ds : List D} : atI (d :: d1 :: d2 :: ds) 2 = some d2 := by
  have : (2 : Int) < (ds.length : Int) + 1 + 1 + 1 := by omega
  simp [atI, ixN, this]
theorem take_ok (a b m : Int) (hm : 0 < m) (hs : m < 1000000) : ∃ r a' b', 0 ≤ r ∧ r < m ∧ c_8 [bx a b, .int m] = .ok (.int r) [bx a' b'] := by
  unfold c_8 callF m_8
  by_cases h : 0 < a
  · refine ⟨a % m, a / m, b, Int.emod_nonneg _ (by omega), Int.emod_lt_of_pos _ hm, ?_⟩
    simp [h, atI, ixN, md_int hm, div_int hm (divOk_s hm (by omega))]
  · refine ⟨((b * 39373 + 547) % 2147483647 * 2147483629 + ((((b * 39373 + 547) % 2147483647) * 40692 + 73) % 2147483399 + 1)) / 8209 % m, a, (((b * 39373 + 547) % 2147483647) * 40692 + 73) % 2147483399 + 1, Int.emod_nonneg _ (by omega), Int.emod_lt_of_pos _ hm, ?_⟩
    simp [h, atI, ixN, mul_int (mulOk_r (a := b) (b := 39373) (by decide)), md_int (b := 2147483647) (by decide), mul_int (mulOk_r (b := 40692) (by decide)), md_int (b := 2147483399) (by decide), mul_int (mulOk_r (b := 2147483629) (by decide)),
        div_int (b := 8209) (by decide) (by decide), md_int hm]
theorem atI_nat {ds : List D} {r : Int} (h0 : 0 ≤ r) (h1 : r < ds.length) : atI ds r = ds[r.toNat]? := by
  simp [atI, ixN, h0, h1]
theorem pick_ok (a b : Int) (o : Bool) (ds : List D) (h0 : ds ≠ []) (hl : ds.length < 1000000) (hz : fzs ds = true) : ∃ x a' b', x ∈ ds ∧ c_9 [bx a b, .lst o ds] = .ok x [bx a' b'] := by
  have hp : 0 < ds.length := List.length_pos_iff.mpr h0
  obtain ⟨r, a', b', h1, h2, h3⟩ := take_ok a b ds.length (by omega) (by omega)
  have h4 : r.toNat < ds.length := by omega
  refine ⟨ds[r.toNat], a', b', List.getElem_mem h4, ?_⟩
  unfold c_9 callF m_9
  simp [h3, hz, atI_nat h1 h2, h4]
theorem same_ok : ∀ (n : Nat) (d : D), plD n d = true → c_10 (n + 1) [d, d] = .ok (.bl true) [] := by
  intro n
  induction n with
  | zero =>
    intro d h
    cases d <;> simp [plD] at h <;> (unfold c_10 callF m_10; simp)
  | succ n ih =>
    intro d h
    cases d with
    | non => unfold c_10 callF m_10; simp
    | int i => unfold c_10 callF m_10; simp
    | tup ds =>
      have hz := plD_fz _ h
      have hz2 : fzs ds = true := hz
      have hf : frzs ds = ds := by have := frz_of _ hz; simpa using this
      have h : ds.all (plD n) = true := h
      have loop : ∀ e : DEnv, e.length = 4 → ∃ e', forL (.t [.v 2, .v 3]) (s_10_1 (c_10 (n + 1))) (ds.map fun a => D.tup [a, a]) e = .nx e' := by
        intro e he
        refine forL_rule (fun r => ∃ e', r = .nx e') (fun _ e => e.length = 4) he ?_ (fun e _ => ⟨e, rfl⟩)
        intro k d e hk hl
        rw [List.getElem?_map] at hk
        cases h1 : ds[k]? with
        | none => rw [h1] at hk; cases hk
        | some x =>
        rw [h1] at hk
        injection hk with hk
        subst hk
        obtain ⟨o0, o1, o2, o3, rfl⟩ := env4 hl
        have hx := List.all_eq_true.mp h x (List.mem_of_getElem? h1)
        unfold s_10_1
        simp [plD_fz _ hx, ih x hx]
      unfold c_10 callF m_10
      obtain ⟨e', he⟩ := loop [some (.tup ds), some (.tup ds), none, none] rfl
      simp [hz2, hf, he]
    | _ => simp [plD] at h
end LW

namespace LW
open PySem PySem.Spec L2 EV
theorem pw18 : powD (.int 10) (.int 18) = some (.int 1000000000000000000) := rfl
theorem atI_in {α : Type} {xs : List α} {k : Int} (h0 : 0 ≤ k) (h1 : k < xs.length) : ∃ x, atI xs k = some x := by
  have h2 : k.toNat < xs.length := by omega
  exact ⟨xs[k.toNat], by simp [atI, ixN, h0, h1, h2]⟩
theorem box_ok (ns : List Int) (k : Int) (hk : 0 ≤ k) : ∃ a b, c_7 [.scr ns, .int k] = .ok (bx a b) [] := by
  unfold c_7 callF m_7
  by_cases h1 : k < (ns.length : Int)
  · obtain ⟨n, hn⟩ := atI_in hk h1
    by_cases h2 : 1000000000000000000 ≤ (if n < 0 then -n else n)
    all_goals simp [h1, hn, h2, pw18, mul_int (mulOk_l (a := 6967) (b := k) (by decide)), mul_int (mulOk_r (b := 40487) (by decide)), mul_int (mulOk_l (a := 2309) (b := k) (by decide)), md_int (b := 2147483549) (by decide)]
  · by_cases h3 : 0 < ns.length
    · have hm := md_int (a := k) (b := (ns.length : Int)) (by omega)
      obtain ⟨n, hn⟩ := atI_in (xs := ns) (k := k % (ns.length : Int)) (Int.emod_nonneg _ (by omega)) (Int.emod_lt_of_pos _ (by omega))
      by_cases h2 : 1000000000000000000 ≤ 6967 * k + 2309 + (if n < 0 then -n else n) % 2147483549 * 57037
      all_goals simp [h1, hn, h2, h3, hm, pw18, mul_int (mulOk_l (a := 6967) (b := k) (by decide)), mul_int (mulOk_r (b := 40487) (by decide)), mul_int (mulOk_r (b := 57037) (by decide)), mul_int (mulOk_l (a := 2309) (b := k) (by decide)), md_int (b := 2147483549) (by decide)]
    · by_cases h2 : 1000000000000000000 ≤ 6967 * k + 2309
      all_goals simp [h1, h2, h3, pw18, mul_int (mulOk_l (a := 6967) (b := k) (by decide)), mul_int (mulOk_r (b := 40487) (by decide)), mul_int (mulOk_l (a := 2309) (b := k) (by decide)), md_int (b := 2147483549) (by decide)]
end LW

namespace LW
open PySem PySem.Spec L2 EV
/-- a table of whole numbers -/
abbrev Sq (n : Nat) (M : List (List Int)) : Prop := M.length = n ∧ ∀ r ∈ M, r.length = n
abbrev ro (r : List Int) : D := .lst true (r.map .int)
abbrev rz (r : List Int) : D := .lst false (r.map .int)
abbrev rt (r : List Int) : D := .tup (r.map .int)
theorem fzs_ints (r : List Int) : fzs (r.map D.int) = true := by
  rw [fzs_all, List.all_eq_true]
  intro d hd
  obtain ⟨i, _, rfl⟩ := List.mem_map.mp hd
  rfl
theorem frzs_ints (r : List Int) : frzs (r.map D.int) = r.map D.int := by
  induction r with
  | nil => rfl
  | cons i r ih => simp [ih]
theorem fzs_of {ds : List D} (h : ∀ d ∈ ds, fz d = true) : fzs ds = true := by
  rw [fzs_all, List.all_eq_true]; exact h
theorem frzs_of {ds : List D} (h : fzs ds = true) : frzs ds = ds := by
  have := frz_of (.tup ds) h
  simpa using this
theorem atI_nn {α : Type} {xs : List α} {k : Nat} (h : k < xs.length) : atI xs (k : Int) = some xs[k] := by
  simp [atI, ixN, h]
theorem atI_map' {α β : Type} (f : α → β) (xs : List α) (k : Nat) (h : k < xs.length) : atI (xs.map f) (k : Int) = some (f xs[k]) := by
  rw [atI_nn (by simpa using h)]; simp
theorem ix2_ok {M : List (List Int)} {n k : Nat} {i j : IA} {a b : Nat} {e : DEnv} (hM : Sq n M) (hk : e[k]? = some (some (.lst true (M.map ro)))) (hi : ixAt i e = some (a : Int)) (hj : ixAt j e = some (b : Int)) (ha : a < n) (hb : b < n) :
    ∃ v, mIx2 k i j e = .ok (.int v) e := by
  have h1 : a < M.length := by rw [hM.1]; exact ha
  have h2 : b < (M[a]).length := by rw [hM.2 _ (List.getElem_mem h1)]; exact hb
  refine ⟨(M[a])[b], ?_⟩
  unfold mIx2
  rw [hk]
  simp only
  rw [hi, hj]
  simp only
  rw [atI_map' ro M a h1]
  simp only [ro]
  rw [atI_map' D.int _ b h2]
  simp [fzs_ints]
theorem set2_ok {M : List (List Int)} {n k : Nat} {i j : IA} {a b : Nat} {e : DEnv} {m : ME} {v : Int} (hM : Sq n M) (hm : m e = .ok (.int v) e) (hk : e[k]? = some (some (.lst true (M.map ro)))) (hi : ixAt i e = some (a : Int)) (hj : ixAt j e = some (b : Int)) (ha : a < n) (hb : b < n) :
    ∃ M', Sq n M' ∧ mSet2 k i j m e = .nx (e.set k (some (.lst true (M'.map ro)))) := by
  have h1 : a < M.length := by rw [hM.1]; exact ha
  have h2 : b < (M[a]).length := by rw [hM.2 _ (List.getElem_mem h1)]; exact hb
  refine ⟨M.set a ((M[a]).set b v), ⟨by rw [List.length_set]; exact hM.1, fun r hr => ?_⟩, ?_⟩
  · rcases List.mem_or_eq_of_mem_set hr with h | h
    · exact hM.2 r h
    · rw [h, List.length_set]; exact hM.2 _ (List.getElem_mem h1)
  · unfold mSet2
    rw [hm, RE.toS_ok, hk]
    simp only
    rw [hi, hj]
    simp only
    have e1 : ixN (M.map ro).length (a : Int) = some a := by simp [ixN, h1]
    rw [e1]
    simp only
    have e2 : (M.map ro)[a]? = some (ro M[a]) := by simp [h1]
    rw [e2]
    simp only [ro]
    have e3 : ixN ((M[a]).map D.int).length (b : Int) = some b := by simp [ixN, h2]
    rw [e3]
    have e4 : D.lst true ((M[a].map D.int).set b (.int v)) = ro (M[a].set b v) := by simp [ro, List.map_set]
    simp only [fzs_ints, fz_int, Bool.and_self, if_true, e4, List.map_set]
theorem lc_list {e : DEnv} : ∀ {M : List (List Int)} {acc : List D} {o0 o1 o2 o3 o4 o5 : Option D}, M.length + acc.length ≤ 1000000 → lcL [6] (.v 6) mTrue q_11_5 (M.map rz) acc [o0, o1, o2, o3, o4, o5, none] = .ok (acc ++ M.map ro) [o0, o1, o2, o3, o4, o5, none]
  | [], acc, _, _, _, _, _, _, _ => by simp [lcL]
  | r :: M, acc, o0, o1, o2, o3, o4, o5, h => by
    have hl : acc.length < 1000000 := by simp at h; omega
    have ih := lc_list (e := e) (M := M) (acc := acc ++ [ro r]) (o0 := o0) (o1 := o1) (o2 := o2) (o3 := o3) (o4 := o4) (o5 := o5) (by simp at h ⊢; omega)
    simp [lcL, q_11_5, fzs_ints, hl, listD]
    simpa [q_11_5] using ih
theorem lc_tup {e : DEnv} : ∀ {M : List (List Int)} {acc : List D} {o0 o1 o2 o3 o4 o5 : Option D}, M.length + acc.length ≤ 1000000 → lcL [6] (.v 6) mTrue q_11_1 (M.map rz) acc [o0, o1, o2, o3, o4, o5, none] = .ok (acc ++ M.map rt) [o0, o1, o2, o3, o4, o5, none]
  | [], acc, _, _, _, _, _, _, _ => by simp [lcL]
  | r :: M, acc, o0, o1, o2, o3, o4, o5, h => by
    have hl : acc.length < 1000000 := by simp at h; omega
    have ih := lc_tup (e := e) (M := M) (acc := acc ++ [rt r]) (o0 := o0) (o1 := o1) (o2 := o2) (o3 := o3) (o4 := o4) (o5 := o5) (by simp at h ⊢; omega)
    simp [lcL, q_11_1, fzs_ints, hl, tupleD]
    simpa [q_11_1] using ih
theorem fz_rows {o : Bool} (M : List (List Int)) : fzs (M.map rz) = true := fzs_of fun d hd => by
  obtain ⟨r, _, rfl⟩ := List.mem_map.mp hd
  simp [fzs_ints]
theorem frz_rows (M : List (List Int)) : frzs (M.map rz) = M.map rz := frzs_of (fz_rows (o := true) M)
theorem frz_ro (M : List (List Int)) : frzs (M.map ro) = M.map rz := by
  induction M with
  | nil => rfl
  | cons r M ih => simp [ih, frzs_ints]
theorem fz_tups (M : List (List Int)) : fzs (M.map rt) = true := fzs_of fun d hd => by
  obtain ⟨r, _, rfl⟩ := List.mem_map.mp hd
  simp [fzs_ints]
theorem frz_tups (M : List (List Int)) : frzs (M.map rt) = M.map rt := frzs_of (fz_tups M)
theorem closed_ok {n : Nat} {M : List (List Int)} (hM : Sq n M) (hn : n < 1000) : ∃ M', Sq n M' ∧ c_11 [.lst true (M.map rz)] = .ok (.tup (M'.map rt)) [.lst false (M.map rz)] := by
  have l1 : ∀ (p : D) (M : List (List Int)) (s o : Nat) (x : Option D), Sq n M → s < n → o < n → ∃ M' x', Sq n M' ∧ forL (.v 5) s_11_2 (rangeD 0 n) [some p, some (.int n), some (.lst true (M.map ro)), some (.int s), some (.int o), x, none] = .nx [some p, some (.int n), some (.lst true (M'.map ro)), some (.int s), some (.int o), x', none] := by
    intro p M s o x hM hs ho
    refine forL_rule (fun r => ∃ M' x', Sq n M' ∧ r = .nx [some p, some (.int n), some (.lst true (M'.map ro)), some (.int s), some (.int o), x', none]) (fun _ e => ∃ M' x', Sq n M' ∧ e = [some p, some (.int n), some (.lst true (M'.map ro)), some (.int s), some (.int o), x', none]) ⟨M, x, hM, rfl⟩ ?_ ?_
    · rintro k d e hk ⟨M1, x1, hM1, rfl⟩
      have hd := (rg_get hk).1
      have hk2 := (rg_get hk).2
      subst hd
      clear hk
      have hk3 : k < n := by omega
      simp only [put_v, stO_some, List.set_cons_succ, List.set_cons_zero]
      generalize he : [some p, some (D.int n), some (.lst true (M1.map ro)), some (.int s), some (.int o), some (D.int (0 + (k : Nat))), none] = e1
      have a2 : e1[2]? = some (some (.lst true (M1.map ro))) := by rw [← he]; rfl
      have i3 : ixAt (.s 3) e1 = some (s : Int) := by rw [← he]; rfl
      have i4 : ixAt (.s 4) e1 = some (o : Int) := by rw [← he]; rfl
      have i5 : ixAt (.s 5) e1 = some (k : Int) := by rw [← he]; simp [ixAt]
      obtain ⟨v1, q1⟩ := ix2_ok hM1 a2 i4 i5 ho hk3
      obtain ⟨v2, q2⟩ := ix2_ok hM1 a2 i4 i3 ho hs
      obtain ⟨v3, q3⟩ := ix2_ok hM1 a2 i3 i5 hs hk3
      have hm : ∃ v, (mOp2 min2D (.e (mIx2 2 (.s 4) (.s 5))) (.e (mOp2 addD (.e (mIx2 2 (.s 4) (.s 3))) (.e (mIx2 2 (.s 3) (.s 5)))))) e1 = .ok (.int v) e1 := by
        simp [q1, q2, q3]
      obtain ⟨v, hm⟩ := hm
      obtain ⟨M2, hM2, h2⟩ := set2_ok hM1 hm a2 i4 i5 ho hk3
      unfold s_11_2
      rw [ap_seq, h2, ← he]
      simp only [RS.seq_nx, stP_nx, List.set_cons_succ, List.set_cons_zero]
      exact ⟨M2, _, hM2, rfl⟩
    · rintro e ⟨M1, x1, h1, rfl⟩
      exact ⟨M1, x1, h1, rfl⟩
  have rg : rngOk n = true := rngOk_s (by omega) (by omega)
  have l2 : ∀ (p : D) (M : List (List Int)) (s : Nat) (o x : Option D), Sq n M → s < n → ∃ M' o' x', Sq n M' ∧ forL (.v 4) s_11_3 (rangeD 0 n) [some p, some (.int n), some (.lst true (M.map ro)), some (.int s), o, x, none] = .nx [some p, some (.int n), some (.lst true (M'.map ro)), some (.int s), o', x', none] := by
    intro p M s o x hM hs
    refine forL_rule (fun r => ∃ M' o' x', Sq n M' ∧ r = .nx [some p, some (.int n), some (.lst true (M'.map ro)), some (.int s), o', x', none]) (fun _ e => ∃ M' o' x', Sq n M' ∧ e = [some p, some (.int n), some (.lst true (M'.map ro)), some (.int s), o', x', none]) ⟨M, o, x, hM, rfl⟩ ?_ ?_
    · rintro k d e hk ⟨M1, o1, x1, hM1, rfl⟩
      have hd := (rg_get hk).1
      have hk2 := (rg_get hk).2
      subst hd
      clear hk
      have hk3 : k < n := by omega
      obtain ⟨M2, x2, hM2, h2⟩ := l1 p M1 s k x1 hM1 hs hk3
      simp only [put_v, stO_some, List.set_cons_succ, List.set_cons_zero, Int.zero_add]
      have hs3 : s_11_3 [some p, some (.int n), some (.lst true (M1.map ro)), some (.int s), some (.int (k : Nat)), x1, none] = .nx [some p, some (.int n), some (.lst true (M2.map ro)), some (.int s), some (.int (k : Nat)), x2, none] := by
        unfold s_11_3
        simp [rg, h2]
      rw [hs3]
      exact ⟨M2, _, _, hM2, rfl⟩
    · rintro e ⟨M1, o1, x1, h1, rfl⟩
      exact ⟨M1, o1, x1, h1, rfl⟩
  have l3 : ∀ (p : D) (M : List (List Int)) (s o x : Option D), Sq n M → ∃ M' s' o' x', Sq n M' ∧ forL (.v 3) s_11_4 (rangeD 0 n) [some p, some (.int n), some (.lst true (M.map ro)), s, o, x, none] = .nx [some p, some (.int n), some (.lst true (M'.map ro)), s', o', x', none] := by
    intro p M s o x hM
    refine forL_rule (fun r => ∃ M' s' o' x', Sq n M' ∧ r = .nx [some p, some (.int n), some (.lst true (M'.map ro)), s', o', x', none]) (fun _ e => ∃ M' s' o' x', Sq n M' ∧ e = [some p, some (.int n), some (.lst true (M'.map ro)), s', o', x', none]) ⟨M, s, o, x, hM, rfl⟩ ?_ ?_
    · rintro k d e hk ⟨M1, s1, o1, x1, hM1, rfl⟩
      have hd := (rg_get hk).1
      have hk2 := (rg_get hk).2
      subst hd
      clear hk
      have hk3 : k < n := by omega
      obtain ⟨M2, o2, x2, hM2, h2⟩ := l2 p M1 k o1 x1 hM1 hk3
      simp only [put_v, stO_some, List.set_cons_succ, List.set_cons_zero, Int.zero_add]
      have hs4 : s_11_4 [some p, some (.int n), some (.lst true (M1.map ro)), some (.int (k : Nat)), o1, x1, none] = .nx [some p, some (.int n), some (.lst true (M2.map ro)), some (.int (k : Nat)), o2, x2, none] := by
        unfold s_11_4
        simp [rg, h2]
      rw [hs4]
      exact ⟨M2, _, _, _, hM2, rfl⟩
    · rintro e ⟨M1, s1, o1, x1, h1, rfl⟩
      exact ⟨M1, s1, o1, x1, h1, rfl⟩
  obtain ⟨M2, s2, o2, x2, hM2, h2⟩ := l3 (.lst false (M.map rz)) M none none none hM
  refine ⟨M2, hM2, ?_⟩
  have hl : M.length = n := hM.1
  have hl2 : M2.length = n := hM2.1
  have g1 := lc_list (e := []) (M := M) (acc := []) (o0 := some (.lst false (M.map rz))) (o1 := none) (o2 := none) (o3 := none) (o4 := none) (o5 := none) (by simp; omega)
  have g2 := lc_tup (e := []) (M := M2) (acc := []) (o0 := some (.lst false (M.map rz))) (o1 := some (.int n)) (o2 := some (.lst false (M2.map rz))) (o3 := s2) (o4 := o2) (o5 := x2) (by simp; omega)
  unfold c_11 callF m_11
  simp [fz_rows (o := true), frz_rows, g1, hl, rg, h2, frz_ro, g2, tupleD, frz_tups]
end LW

namespace LW
open PySem PySem.Spec L2 EV
/-- None or a whole number -/
def leaf : D → Bool
  | .non => true
  | .int _ => true
  | _ => false
theorem leaf_fz {d : D} (h : leaf d = true) : fz d = true := by cases d <;> simp [leaf] at h <;> rfl
theorem leaf_frz {d : D} (h : leaf d = true) : frz d = d := frz_of d (leaf_fz h)
theorem leaf_pl {d : D} (h : leaf d = true) (n : Nat) : plD n d = true := by cases d <;> simp [leaf] at h <;> (cases n <;> rfl)
theorem leaf_fzs {ds : List D} (h : ∀ d ∈ ds, leaf d = true) : fzs ds = true := fzs_of fun d hd => leaf_fz (h d hd)
theorem leaf_frzs {ds : List D} (h : ∀ d ∈ ds, leaf d = true) : frzs ds = ds := frzs_of (leaf_fzs h)
theorem leaf_eqOks {ds : List D} (h : ∀ d ∈ ds, leaf d = true) (n : Nat) : eqOks (n + 1) ds = true := by
  induction ds with
  | nil => rfl
  | cons d ds ih =>
    have h1 := h d (List.mem_cons_self ..)
    have h2 := ih fun x hx => h x (List.mem_cons_of_mem _ hx)
    show (eqOk (n + 1) d && eqOks (n + 1) ds) = true
    rw [h2]
    cases d <;> simp [leaf] at h1 <;> rfl
/-- the service's frame -/
abbrev sv (a b : Int) (st ta de : Int) (x4 x5 x6 x7 x8 x9 x10 : Option D) : DEnv := [some (bx a b), some (.int st), some (.int ta), some (.int de), x4, x5, x6, x7, x8, x9, x10]
/-- a comprehension over a range that draws from the box -/
theorem lc_box {i n : Nat} {elt : ME} {E : Int → Int → DEnv} (P : D → Prop) (hn : n < 1000) (hs : ∀ a b k, k < n → ∃ y a' b' e3, P y ∧ elt ((E a b).set i (some (.int (k : Nat)))) = .ok y e3 ∧ e3.set i none = E a' b') (a b : Int) :
    ∃ (a' b' : Int) (acc : List D), acc.length = n ∧ (∀ d ∈ acc, P d) ∧ lcL [i] (.v i) mTrue elt (rangeD 0 n) [] (E a b) = .ok acc (E a' b') := by
  have H := lcL_rule (own := [i]) (tg := .v i) (cond := mTrue) (elt := elt) (ds := rangeD 0 n) (fun k acc e => ∃ a b, acc.length = k ∧ (∀ d ∈ acc, P d) ∧ e = E a b) (acc := []) (e := E a b) ⟨a, b, rfl, (fun d hd => nomatch hd), rfl⟩ (by
    rintro k d acc e hk ⟨a1, b1, hr, hp, rfl⟩
    have hk2 := (rg_get hk).2
    have hd' := (rg_get hk).1
    subst hd'
    clear hk
    have hl : acc.length < 1000000 := by rw [hr]; omega
    obtain ⟨y, a2, b2, e3, h1, h2, h3⟩ := hs a1 b1 k (by omega)
    simp only [put_v, stO_some, ap_true, stB_ok, if_true, Int.zero_add, h2, stE_ok, LIM_is, hl, true_and, wipe_cons, wipe_nil, h3]
    refine ⟨a2, b2, by simp [hr], fun d hd => ?_, rfl⟩
    rcases List.mem_append.mp hd with hd | hd
    · exact hp d hd
    · rw [List.mem_singleton.mp hd]; exact h1)
  obtain ⟨acc, e', h1, a', b', hr, hp, rfl⟩ := H
  exact ⟨a', b', acc, by rw [hr, rg_len]; omega, hp, h1⟩
theorem ints_of {ds : List D} (h : ∀ d ∈ ds, ∃ i, d = .int i) : ∃ r : List Int, ds = r.map D.int := by
  induction ds with
  | nil => exact ⟨[], rfl⟩
  | cons d ds ih =>
    obtain ⟨i, rfl⟩ := h d (List.mem_cons_self ..)
    obtain ⟨r, rfl⟩ := ih fun x hx => h x (List.mem_cons_of_mem _ hx)
    exact ⟨i :: r, rfl⟩
theorem row_lc {st : Nat} {ta de : Int} {o : Int} {x4 x5 x7 x8 x10 : Option D} (hd : 0 ≤ de) (hd2 : de < 1000) (hst : st < 1000) (a b : Int) :
    ∃ (a' b' : Int) (r : List Int), r.length = st ∧ lcL [9] (.v 9) mTrue q_12_5 (rangeD 0 st) [] (sv a b st ta de x4 x5 (some (.int o)) x7 x8 none x10) = .ok (r.map D.int) (sv a' b' st ta de x4 x5 (some (.int o)) x7 x8 none x10) := by
  have H := lc_box (i := 9) (n := st) (elt := q_12_5) (E := fun a b => sv a b st ta de x4 x5 (some (.int o)) x7 x8 none x10) (fun d => ∃ i, d = .int i) hst (by
    intro a b k hk
    by_cases ho : o = (k : Nat)
    · refine ⟨.int 0, a, b, sv a b st ta de x4 x5 (some (.int o)) x7 x8 (some (.int (k : Nat))) x10, ⟨0, rfl⟩, ?_, rfl⟩
      unfold q_12_5
      simp [ho]
    · obtain ⟨v, a2, b2, h3, h4, h5⟩ := take_ok a b (de + 1) (by omega) (by omega)
      refine ⟨.int v, a2, b2, sv a2 b2 st ta de x4 x5 (some (.int o)) x7 x8 (some (.int (k : Nat))) x10, ⟨v, rfl⟩, ?_, rfl⟩
      unfold q_12_5
      have ho' : (o == ((k : Nat) : Int)) = false := by simpa using ho
      simp [ho', h5]) a b
  obtain ⟨a', b', acc, h1, h2, h3⟩ := H
  obtain ⟨r, rfl⟩ := ints_of h2
  exact ⟨a', b', r, by simpa using h1, h3⟩
theorem ln_map {r : List Int} : (r.map D.int).length = r.length := by simp
/-- the rows of prices -/
theorem rows_loop {st : Nat} {ta de : Int} (hd : 0 ≤ de) (hd2 : de < 1000) (hst : st < 1000) (a b : Int) :
    ∃ (a' b' : Int) (M : List (List Int)) (x6 : Option D), Sq st M ∧ forL (.v 6) s_12_6 (rangeD 0 st) (sv a b st ta de (some (.lst true [])) (some (.lst true [])) none none none none none) = .nx (sv a' b' st ta de (some (.lst true (M.map rz))) (some (.lst true [])) x6 none none none none) := by
  have H := forL_rule (tg := .v 6) (m := s_12_6) (fun r => ∃ (a' b' : Int) (M : List (List Int)) (x6 : Option D), Sq st M ∧ r = .nx (sv a' b' st ta de (some (.lst true (M.map rz))) (some (.lst true [])) x6 none none none none)) (ds := rangeD 0 st)
    (fun k e => ∃ (a' b' : Int) (M : List (List Int)) (x6 : Option D), M.length = k ∧ (∀ r ∈ M, r.length = st) ∧ e = sv a' b' st ta de (some (.lst true (M.map rz))) (some (.lst true [])) x6 none none none none)
    (e := sv a b st ta de (some (.lst true [])) (some (.lst true [])) none none none none none) ⟨a, b, [], none, rfl, (fun r hr => nomatch hr), rfl⟩ ?_ ?_
  · exact H
  · rintro k d e hk ⟨a1, b1, M, x6, hM, hr, rfl⟩
    have hk2 := (rg_get hk).2
    have hd' := (rg_get hk).1
    subst hd'
    clear hk
    obtain ⟨a2, b2, r, h1, h2⟩ := row_lc (st := st) (ta := ta) (de := de) (o := (k : Nat)) (x4 := some (.lst true (M.map rz))) (x5 := some (.lst true [])) (x7 := none) (x8 := none) (x10 := none) hd hd2 hst a1 b1
    have rg : rngOk st = true := rngOk_s (by omega) (by omega)
    have hs : s_12_6 (sv a1 b1 st ta de (some (.lst true (M.map rz))) (some (.lst true [])) (some (.int (k : Nat))) none none none none) = .nx (sv a2 b2 st ta de (some (.lst true ((M ++ [r]).map rz))) (some (.lst true [])) (some (.int (k : Nat))) none none none none) := by
      have hl : M.length < 1000000 := by omega
      unfold s_12_6
      simp [rg, h2, frzs_ints, hl]
    simp only [put_v, stO_some, Int.zero_add, List.set_cons_succ, List.set_cons_zero]
    rw [hs]
    refine ⟨a2, b2, M ++ [r], _, by simp [hM], fun q hq => ?_, rfl⟩
    rcases List.mem_append.mp hq with hq | hq
    · exact hr q hq
    · rw [List.mem_singleton.mp hq]; exact h1
  · rintro e ⟨a1, b1, M, x6, hM, hr, rfl⟩
    exact ⟨a1, b1, M, x6, ⟨by rw [hM, rg_len]; omega, hr⟩, rfl⟩
end LW

namespace LW
open PySem PySem.Spec L2 EV
theorem filt_lc {e0 e1 e2 e3 e4 e5 e6 e7 e8 e9 : Option D} : ∀ {ds acc : List D}, (∀ d ∈ ds, leaf d = true) → ds.length + acc.length < 1000000 → (∀ d ∈ acc, leaf d = true) → ∃ acc', (∀ d ∈ acc', leaf d = true) ∧ lcL [10] (.v 10) t_12_2 q_12_1 ds acc [e0, e1, e2, e3, e4, e5, e6, e7, e8, e9, none] = .ok acc' [e0, e1, e2, e3, e4, e5, e6, e7, e8, e9, none]
  | [], acc, _, _, ha => ⟨acc, ha, by simp [lcL]⟩
  | d :: ds, acc, h, hl, ha => by
    have h1 := h d (List.mem_cons_self ..)
    have h2 : ∀ x ∈ ds, leaf x = true := fun x hx => h x (List.mem_cons_of_mem _ hx)
    have hl2 : acc.length < 1000000 := by simp at hl; omega
    cases d with
    | non =>
      obtain ⟨acc', h3, h4⟩ := filt_lc (e0 := e0) (e1 := e1) (e2 := e2) (e3 := e3) (e4 := e4) (e5 := e5) (e6 := e6) (e7 := e7) (e8 := e8) (e9 := e9) (ds := ds) (acc := acc) h2 (by simp at hl; omega) ha
      refine ⟨acc', h3, ?_⟩
      unfold t_12_2 at h4 ⊢
      simp [lcL, h4]
    | int i =>
      obtain ⟨acc', h3, h4⟩ := filt_lc (e0 := e0) (e1 := e1) (e2 := e2) (e3 := e3) (e4 := e4) (e5 := e5) (e6 := e6) (e7 := e7) (e8 := e8) (e9 := e9) (ds := ds) (acc := acc ++ [.int i]) h2 (by simp at hl ⊢; omega) (fun x hx => by
        rcases List.mem_append.mp hx with hx | hx
        · exact ha x hx
        · rw [List.mem_singleton.mp hx]; rfl)
      refine ⟨acc', h3, ?_⟩
      unfold t_12_2 q_12_1 at h4 ⊢
      simp [lcL, hl2, h4]
    | _ => simp [leaf] at h1
theorem cost_lc {st : Nat} {ta de : Int} {x4 x5 x7 x8 x9 x10 : Option D} (hd : 0 ≤ de) (hd2 : de < 1000) (hst : st < 1000) (a b : Int) :
    ∃ (a' b' : Int) (acc : List D), acc.length = st ∧ (∀ d ∈ acc, leaf d = true) ∧ lcL [6] (.v 6) mTrue q_12_3 (rangeD 0 st) [] (sv a b st ta de x4 x5 none x7 x8 x9 x10) = .ok acc (sv a' b' st ta de x4 x5 none x7 x8 x9 x10) :=
  lc_box (i := 6) (n := st) (elt := q_12_3) (E := fun a b => sv a b st ta de x4 x5 none x7 x8 x9 x10) (fun d => leaf d = true) hst (by
    intro a b k hk
    obtain ⟨v, a1, b1, h1, h2, h3⟩ := take_ok a b 5 (by omega) (by omega)
    by_cases hv : v = 0
    · refine ⟨.non, a1, b1, sv a1 b1 st ta de x4 x5 (some (.int (k : Nat))) x7 x8 x9 x10, rfl, ?_, rfl⟩
      unfold q_12_3
      simp [h3, hv]
    · obtain ⟨v2, a2, b2, h4, h5, h6⟩ := take_ok a1 b1 (de + 1) (by omega) (by omega)
      refine ⟨.int v2, a2, b2, sv a2 b2 st ta de x4 x5 (some (.int (k : Nat))) x7 x8 x9 x10, rfl, ?_, rfl⟩
      have hv' : (v == 0) = false := by simpa using hv
      unfold q_12_3
      simp [h3, hv', h6]) a b
abbrev ltup (ds : List D) : D := .tup ds
theorem costs_step {st : Nat} {ta de : Int} {x4 x6 x8 x9 : Option D} {t : Int} {cs : List (List D)} (hd : 0 ≤ de) (hd2 : de < 1000) (hst : st < 1000) (hst0 : 0 < st) (hc : cs.length < 1000) (a b : Int) :
    ∃ (a' b' : Int) (ds : List D) (x6' x8' : Option D), (∀ d ∈ ds, leaf d = true) ∧ s_12_4 (sv a b st ta de x4 (some (.lst true (cs.map ltup))) x6 (some (.int t)) x8 x9 none) = .nx (sv a' b' st ta de x4 (some (.lst true ((cs ++ [ds]).map ltup))) x6' (some (.int t)) x8' x9 none) := by
  obtain ⟨a1, b1, row, h1, h2, h3⟩ := cost_lc (st := st) (ta := ta) (de := de) (x4 := x4) (x5 := some (.lst true (cs.map ltup))) (x7 := some (.int t)) (x8 := x8) (x9 := x9) (x10 := none) hd hd2 hst a b
  have rg : rngOk st = true := rngOk_s (by omega) (by omega)
  have hl : cs.length < 1000000 := by omega
  obtain ⟨x6', hb⟩ : ∃ x6', backE (sv a b st ta de x4 (some (.lst true (cs.map ltup))) x6 (some (.int t)) x8 x9 none) [6] (sv a1 b1 st ta de x4 (some (.lst true (cs.map ltup))) none (some (.int t)) x8 x9 none) = sv a1 b1 st ta de x4 (some (.lst true (cs.map ltup))) x6' (some (.int t)) x8 x9 none := by
    cases x6 with
    | none => exact ⟨none, by simp⟩
    | some d =>
      by_cases hz : fz d = true
      · exact ⟨some d, by simp [hz]⟩
      · exact ⟨none, by simp [hz]⟩
  obtain ⟨fl, h4, h5⟩ := filt_lc (e0 := some (bx a1 b1)) (e1 := some (.int st)) (e2 := some (.int ta)) (e3 := some (.int de)) (e4 := x4) (e5 := some (.lst true (cs.map ltup))) (e6 := x6') (e7 := some (.int t)) (e8 := none) (e9 := x9) (ds := row) (acc := []) h2 (by simp; omega) (fun d hd => nomatch hd)
  have hq : eqD (.lst false fl) (.lst false []) = some (.bl (eqvDs fl [])) := by
    unfold eqD
    have : eqOk 60 (.lst false fl) = true := leaf_eqOks h4 58
    rw [this]
    rfl
  have hz := leaf_fzs h2
  have hf := leaf_frzs h2
  have hf2 := leaf_frzs h4
  have hb10 : ∀ e8 : Option D, backE [some (bx a1 b1), some (D.int st), some (.int ta), some (.int de), x4, some (.lst true (cs.map ltup)), x6', some (.int t), e8, x9, none] [10] [some (bx a1 b1), some (D.int st), some (.int ta), some (.int de), x4, some (.lst true (cs.map ltup)), x6', some (.int t), e8, x9, none] = [some (bx a1 b1), some (D.int st), some (.int ta), some (.int de), x4, some (.lst true (cs.map ltup)), x6', some (.int t), e8, x9, none] := fun e8 => by simp
  cases hb2 : eqvDs fl [] with
  | false =>
    refine ⟨a1, b1, row, x6', some (.lst true row), h2, ?_⟩
    rw [hb2] at hq
    unfold s_12_4
    simp [-back_cons, hb10, rg, h3, hb, hz, h5, hf2, hq, hl, tupleD]
  | true =>
    rw [hb2] at hq
    obtain ⟨v, a2, b2, h6, h7, h8⟩ := take_ok a1 b1 (de + 1) (by omega) (by omega)
    obtain ⟨w, a3, b3, h9, h10, h11⟩ := take_ok a2 b2 st (by omega) (by omega)
    have hw : w.toNat < row.length := by omega
    have hix : ixN row.length w = some w.toNat := by
      have : w < (row.length : Int) := by omega
      simp [ixN, h9, this]
    have h2' : ∀ d ∈ row.set w.toNat (.int v), leaf d = true := fun d hd => by
      rcases List.mem_or_eq_of_mem_set hd with h | h
      · exact h2 d h
      · rw [h]; rfl
    have hz' := leaf_fzs h2'
    refine ⟨a3, b3, row.set w.toNat (.int v), x6', some (.lst true (row.set w.toNat (.int v))), h2', ?_⟩
    unfold s_12_4
    simp [-back_cons, hb10, rg, h3, hb, hz, h5, hf2, hq, h8, h11, hix, hz', hl, tupleD]
theorem ltup_fzs {cs : List (List D)} (h : ∀ ds ∈ cs, ∀ d ∈ ds, leaf d = true) : fzs (cs.map ltup) = true := fzs_of fun d hd => by
  obtain ⟨ds, h1, rfl⟩ := List.mem_map.mp hd
  exact leaf_fzs (h ds h1)
theorem costs_loop {st tk : Nat} {de : Int} {x4 x6 : Option D} (hd : 0 ≤ de) (hd2 : de < 1000) (hst : st < 1000) (hst0 : 0 < st) (htk : tk < 1000) (a b : Int) :
    ∃ (a' b' : Int) (cs : List (List D)) (x6' x7' x8' : Option D), (∀ ds ∈ cs, ∀ d ∈ ds, leaf d = true) ∧ forL (.v 7) s_12_4 (rangeD 0 tk) (sv a b st tk de x4 (some (.lst true [])) x6 none none none none) = .nx (sv a' b' st tk de x4 (some (.lst true (cs.map ltup))) x6' x7' x8' none none) := by
  refine forL_rule (tg := .v 7) (m := s_12_4) (fun r => ∃ (a' b' : Int) (cs : List (List D)) (x6' x7' x8' : Option D), (∀ ds ∈ cs, ∀ d ∈ ds, leaf d = true) ∧ r = .nx (sv a' b' st tk de x4 (some (.lst true (cs.map ltup))) x6' x7' x8' none none)) (ds := rangeD 0 tk)
    (fun k e => ∃ (a' b' : Int) (cs : List (List D)) (x6' x7' x8' : Option D), cs.length = k ∧ (∀ ds ∈ cs, ∀ d ∈ ds, leaf d = true) ∧ e = sv a' b' st tk de x4 (some (.lst true (cs.map ltup))) x6' x7' x8' none none)
    ⟨a, b, [], x6, none, none, rfl, (fun r hr => nomatch hr), rfl⟩ ?_ ?_
  · rintro k d e hk ⟨a1, b1, cs, y6, y7, y8, hc, hr, rfl⟩
    have hk2 := (rg_get hk).2
    have hd' := (rg_get hk).1
    subst hd'
    clear hk
    obtain ⟨a2, b2, ds, z6, z8, h1, h2⟩ := costs_step (st := st) (ta := tk) (de := de) (x4 := x4) (x6 := y6) (x8 := y8) (x9 := none) (t := (k : Nat)) (cs := cs) hd hd2 hst hst0 (by omega) a1 b1
    simp only [put_v, stO_some, Int.zero_add, List.set_cons_succ, List.set_cons_zero]
    rw [h2]
    refine ⟨a2, b2, cs ++ [ds], z6, _, z8, by simp [hc], fun q hq => ?_, rfl⟩
    rcases List.mem_append.mp hq with hq | hq
    · exact hr q hq
    · rw [List.mem_singleton.mp hq]; exact h1
  · rintro e ⟨a1, b1, cs, y6, y7, y8, hc, hr, rfl⟩
    exact ⟨a1, b1, cs, y6, y7, y8, hr, rfl⟩
theorem service_ok {st tk : Nat} {de : Int} (hd : 0 ≤ de) (hd2 : de < 1000) (hst : st < 1000) (hst0 : 0 < st) (htk : tk < 1000) (a b : Int) :
    ∃ (a' b' : Int) (d : D), plD 3 d = true ∧ c_12 [bx a b, .int st, .int tk, .int de] = .ok d [bx a' b'] := by
  obtain ⟨a1, b1, M, x6, hM, h1⟩ := rows_loop (st := st) (ta := tk) hd hd2 hst a b
  obtain ⟨a2, b2, cs, y6, y7, y8, hc, h2⟩ := costs_loop (st := st) (tk := tk) (x4 := some (.lst true (M.map rz))) (x6 := x6) hd hd2 hst hst0 htk a1 b1
  obtain ⟨M', hM', h3⟩ := closed_ok hM hst
  have g1 : rngOk st = true := rngOk_s (by omega) (by omega)
  have g2 : rngOk tk = true := rngOk_s (by omega) (by omega)
  have hz := ltup_fzs hc
  have hf := frzs_of hz
  refine ⟨a2, b2, .tup [.tup (M'.map rt), .tup (cs.map ltup)], ?_, ?_⟩
  · have p1 : plD 2 (.tup (M'.map rt)) = true := by
      show (M'.map rt).all (plD 1) = true
      rw [List.all_eq_true]
      intro d hd
      obtain ⟨r, _, rfl⟩ := List.mem_map.mp hd
      show (r.map D.int).all (plD 0) = true
      rw [List.all_eq_true]
      intro d hd
      obtain ⟨i, _, rfl⟩ := List.mem_map.mp hd
      rfl
    have p2 : plD 2 (.tup (cs.map ltup)) = true := by
      show (cs.map ltup).all (plD 1) = true
      rw [List.all_eq_true]
      intro d hd
      obtain ⟨r, hr, rfl⟩ := List.mem_map.mp hd
      show r.all (plD 0) = true
      rw [List.all_eq_true]
      exact fun d hd => leaf_pl (hc r hr d hd) 0
    show (plD 2 (.tup (M'.map rt)) && (plD 2 (.tup (cs.map ltup)) && true)) = true
    rw [p1, p2]; rfl
  · unfold c_12 callF m_12
    simp [g1, g2, h1, h2, h3, hz, hf, tupleD]
end LW

namespace LW
open PySem PySem.Spec L2 EV
/-- a step of a book: the task, the wrong words, the room behind -/
abbrev Stp := Option (Int × Int × Nat)
def stD : Stp → D
  | none => .non
  | some (t, w, r) => .tup [.int t, .int w, .int r]
abbrev rwD (row : List Stp) : D := .tup (row.map stD)
theorem stD_fz (s : Stp) : fz (stD s) = true := by
  cases s with
  | none => rfl
  | some x => obtain ⟨t, w, r⟩ := x; rfl
theorem stDs_fz (row : List Stp) : fzs (row.map stD) = true := fzs_of fun d hd => by
  obtain ⟨s, _, rfl⟩ := List.mem_map.mp hd
  exact stD_fz s
theorem rwD_fzs (W : List (List Stp)) : fzs (W.map rwD) = true := fzs_of fun d hd => by
  obtain ⟨s, _, rfl⟩ := List.mem_map.mp hd
  exact stDs_fz s
abbrev wd (a b tk ro si : Int) (x4 x5 x6 x7 : Option D) : DEnv := [some (bx a b), some (.int tk), some (.int ro), some (.int si), x4, x5, x6, x7]
/-- what is in a row: rooms below n -/
def okS (n : Nat) (s : Stp) : Prop := ∀ t w r, s = some (t, w, r) → r < n
theorem word_step {tk ro si : Nat} (htk : 0 < tk) (htk2 : tk < 1000) (hro : 0 < ro) (hro2 : ro < 1000) {x4 x5 x7 : Option D} {row : List Stp} (hl : row.length < 1000) (a b : Int) :
    ∃ (a' b' : Int) (s : Stp), okS ro s ∧ s_13_1 (wd a b tk ro si x4 x5 (some (.lst true (row.map stD))) x7) = .nx (wd a' b' tk ro si x4 x5 (some (.lst true ((row ++ [s]).map stD))) x7) := by
  obtain ⟨v, a1, b1, h1, h2, h3⟩ := take_ok a b 7 (by omega) (by omega)
  have hl2 : row.length < 1000000 := by omega
  by_cases hv : v = 0
  · refine ⟨a1, b1, none, (fun _ _ _ h => nomatch h), ?_⟩
    unfold s_13_1
    simp [h3, hv, hl2, stD]
  · have hv' : (v == 0) = false := by simpa using hv
    obtain ⟨t, a2, b2, _, _, h4⟩ := take_ok a1 b1 tk (by omega) (by omega)
    obtain ⟨u, a3, b3, _, _, h5⟩ := take_ok a2 b2 10 (by omega) (by omega)
    obtain ⟨w, a4, b4, hw, h6⟩ := pick_ok a3 b3 true [.int 0, .int 1, .int u] (by simp) (by simp) (by simp)
    obtain ⟨r, a5, b5, h7, h8, h9⟩ := take_ok a4 b4 ro (by omega) (by omega)
    obtain ⟨wi, rfl⟩ : ∃ wi, w = .int wi := by
      simp at hw
      rcases hw with h | h | h <;> exact ⟨_, h⟩
    refine ⟨a5, b5, some (t, wi, r.toNat), (fun t' w' r' h => by
      injection h with h
      injection h with _ h
      injection h with _ h
      omega), ?_⟩
    have hr : ((r.toNat : Nat) : Int) = r := by omega
    unfold s_13_1
    simp [h3, hv', h4, h5, h6, h9, hl2, stD, hr]
theorem word_row {tk ro si : Nat} (htk : 0 < tk) (htk2 : tk < 1000) (hro : 0 < ro) (hro2 : ro < 1000) (hsi : si < 1000) {x4 x5 x7 : Option D} (a b : Int) :
    ∃ (a' b' : Int) (row : List Stp) (x7' : Option D), row.length = si ∧ (∀ s ∈ row, okS ro s) ∧ forL (.v 7) s_13_1 (rangeD 0 si) (wd a b tk ro si x4 x5 (some (.lst true [])) x7) = .nx (wd a' b' tk ro si x4 x5 (some (.lst true (row.map stD))) x7') := by
  refine forL_rule (tg := .v 7) (m := s_13_1) (fun r => ∃ (a' b' : Int) (row : List Stp) (x7' : Option D), row.length = si ∧ (∀ s ∈ row, okS ro s) ∧ r = .nx (wd a' b' tk ro si x4 x5 (some (.lst true (row.map stD))) x7')) (ds := rangeD 0 si)
    (fun k e => ∃ (a' b' : Int) (row : List Stp) (x7' : Option D), row.length = k ∧ (∀ s ∈ row, okS ro s) ∧ e = wd a' b' tk ro si x4 x5 (some (.lst true (row.map stD))) x7')
    ⟨a, b, [], x7, rfl, (fun r hr => nomatch hr), rfl⟩ ?_ ?_
  · rintro k d e hk ⟨a1, b1, row, y7, hc, hr, rfl⟩
    have hk2 := (rg_get hk).2
    have hd' := (rg_get hk).1
    subst hd'
    clear hk
    obtain ⟨a2, b2, s, h1, h2⟩ := word_step (tk := tk) (ro := ro) (si := si) htk htk2 hro hro2 (x4 := x4) (x5 := x5) (x7 := some (.int (k : Nat))) (row := row) (by omega) a1 b1
    simp only [put_v, stO_some, Int.zero_add, List.set_cons_succ, List.set_cons_zero]
    rw [h2]
    refine ⟨a2, b2, row ++ [s], _, by simp [hc], fun q hq => ?_, rfl⟩
    rcases List.mem_append.mp hq with hq | hq
    · exact hr q hq
    · rw [List.mem_singleton.mp hq]; exact h1
  · rintro e ⟨a1, b1, row, y7, hc, hr, rfl⟩
    exact ⟨a1, b1, row, y7, by rw [hc, rg_len]; omega, hr, rfl⟩
theorem words_loop {tk ro si : Nat} (htk : 0 < tk) (htk2 : tk < 1000) (hro : 0 < ro) (hro2 : ro < 1000) (hsi : si < 1000) (a b : Int) :
    ∃ (a' b' : Int) (W : List (List Stp)) (x5 x6 x7 : Option D), W.length = ro ∧ (∀ row ∈ W, row.length = si ∧ ∀ s ∈ row, okS ro s) ∧ forL (.v 5) s_13_2 (rangeD 0 ro) (wd a b tk ro si (some (.lst true [])) none none none) = .nx (wd a' b' tk ro si (some (.lst true (W.map rwD))) x5 x6 x7) := by
  have rg : rngOk si = true := rngOk_s (by omega) (by omega)
  refine forL_rule (tg := .v 5) (m := s_13_2) (fun r => ∃ (a' b' : Int) (W : List (List Stp)) (x5 x6 x7 : Option D), W.length = ro ∧ (∀ row ∈ W, row.length = si ∧ ∀ s ∈ row, okS ro s) ∧ r = .nx (wd a' b' tk ro si (some (.lst true (W.map rwD))) x5 x6 x7)) (ds := rangeD 0 ro)
    (fun k e => ∃ (a' b' : Int) (W : List (List Stp)) (x5 x6 x7 : Option D), W.length = k ∧ (∀ row ∈ W, row.length = si ∧ ∀ s ∈ row, okS ro s) ∧ e = wd a' b' tk ro si (some (.lst true (W.map rwD))) x5 x6 x7)
    ⟨a, b, [], none, none, none, rfl, (fun r hr => nomatch hr), rfl⟩ ?_ ?_
  · rintro k d e hk ⟨a1, b1, W, y5, y6, y7, hc, hr, rfl⟩
    have hk2 := (rg_get hk).2
    have hd' := (rg_get hk).1
    subst hd'
    clear hk
    have hl : W.length < 1000000 := by omega
    obtain ⟨a2, b2, row, z7, h1, h2, h3⟩ := word_row (tk := tk) (ro := ro) (si := si) htk htk2 hro hro2 hsi (x4 := some (.lst true (W.map rwD))) (x5 := some (.int (k : Nat))) (x7 := y7) a1 b1
    have hs : s_13_2 (wd a1 b1 tk ro si (some (.lst true (W.map rwD))) (some (.int (k : Nat))) y6 y7) = .nx (wd a2 b2 tk ro si (some (.lst true ((W ++ [row]).map rwD))) (some (.int (k : Nat))) (some (.lst true (row.map stD))) z7) := by
      have hz := stDs_fz row
      unfold s_13_2
      simp [rg, h3, hz, hl, tupleD]
    simp only [put_v, stO_some, Int.zero_add, List.set_cons_succ, List.set_cons_zero]
    rw [hs]
    refine ⟨a2, b2, W ++ [row], _, _, _, by simp [hc], fun q hq => ?_, rfl⟩
    rcases List.mem_append.mp hq with hq | hq
    · exact hr q hq
    · rw [List.mem_singleton.mp hq]; exact ⟨h1, h2⟩
  · rintro e ⟨a1, b1, W, y5, y6, y7, hc, hr, rfl⟩
    exact ⟨a1, b1, W, y5, y6, y7, by rw [hc, rg_len]; omega, hr, rfl⟩
/-- a book: rooms, signs -/
structure Bk (W : List (List Stp)) (ro si : Nat) : Prop where
  ro0 : 0 < ro
  ro1 : ro ≤ 4
  si0 : 0 < si
  si1 : si ≤ 4
  len : W.length = ro
  row : ∀ r ∈ W, r.length = si ∧ ∀ s ∈ r, okS ro s
abbrev bkD (W : List (List Stp)) : D := .tup (W.map rwD)
theorem words_ok {tk : Nat} (htk : 0 < tk) (htk2 : tk < 1000) (a b : Int) : ∃ (a' b' : Int) (W : List (List Stp)) (ro si : Nat), Bk W ro si ∧ c_13 [bx a b, .int tk] = .ok (bkD W) [bx a' b'] := by
  obtain ⟨r, a1, b1, h1, h2, h3⟩ := take_ok a b 4 (by omega) (by omega)
  obtain ⟨s, a2, b2, h4, h5, h6⟩ := take_ok a1 b1 4 (by omega) (by omega)
  obtain ⟨a3, b3, W, x5, x6, x7, h7, h8, h9⟩ := words_loop (tk := tk) (ro := (1 + r).toNat) (si := (1 + s).toNat) htk htk2 (by omega) (by omega) (by omega) a2 b2
  have hr : (((1 + r).toNat : Nat) : Int) = 1 + r := by omega
  have hs : (((1 + s).toNat : Nat) : Int) = 1 + s := by omega
  rw [hr, hs] at h9
  have rg : rngOk (1 + r) = true := rngOk_s (by omega) (by omega)
  have hz := rwD_fzs W
  refine ⟨a3, b3, W, (1 + r).toNat, (1 + s).toNat, ⟨by omega, by omega, by omega, by omega, h7, h8⟩, ?_⟩
  unfold c_13 callF m_13
  simp [h3, h6, rg, h9, hz, tupleD]
end LW

namespace LW
open PySem PySem.Spec L2 EV
abbrev Prs := List (Nat × Nat)
abbrev JS := Option (Int × (Int × Int) × Nat)
abbrev pD (p : Nat × Nat) : D := .tup [.int p.1, .int p.2]
def jsD : JS → D
  | none => .non
  | some (t, w, k) => .tup [.int t, .tup [.int w.1, .int w.2], .int k]
/-- one step of both books -/
def jst (ps : Prs) : Stp → Stp → Prs × JS
  | some (t1, w1, r1), some (t2, w2, r2) => if t1 = t2 then
      ((if (r1, r2) ∈ ps then ps else ps ++ [(r1, r2)]), some (t1, (w1, w2), (if (r1, r2) ∈ ps then ps else ps ++ [(r1, r2)]).idxOf (r1, r2)))
    else (ps, none)
  | _, _ => (ps, none)
theorem pD_eqv (p q : Nat × Nat) : eqvD (pD p) (pD q) = decide (p = q) := by
  obtain ⟨a, b⟩ := p
  obtain ⟨c, d⟩ := q
  show (((a : Int) == (c : Int)) && (((b : Int) == (d : Int)) && true)) = _
  by_cases h1 : a = c <;> by_cases h2 : b = d <;> simp [h1, h2] <;> (intros; omega)
theorem pD_any (ps : Prs) (q : Nat × Nat) : (ps.map pD).any (fun z => eqvD z (pD q)) = decide (q ∈ ps) := by
  induction ps with
  | nil => simp
  | cons p ps ih =>
    rw [List.map_cons, List.any_cons, ih, pD_eqv]
    by_cases h : p = q
    · subst h; simp
    · have h' : ¬ q = p := fun e => h e.symm
      simp [h, h']
theorem pD_ok (ps : Prs) (n : Nat) : eqOks (n + 2) (ps.map pD) = true := by
  induction ps with
  | nil => rfl
  | cons p ps ih =>
    show (eqOk (n + 2) (pD p) && eqOks (n + 2) (ps.map pD)) = true
    rw [ih]; rfl
theorem pD_fzs (ps : Prs) : fzs (ps.map pD) = true := fzs_of fun d hd => by
  obtain ⟨s, _, rfl⟩ := List.mem_map.mp hd
  rfl
theorem in_ps (o : Bool) (ps : Prs) (q : Nat × Nat) : inD (pD q) (.lst o (ps.map pD)) = some (.bl (decide (q ∈ ps))) := by
  show (if eqOk 60 (pD q) && eqOks 59 (ps.map pD) then some (D.bl ((ps.map pD).any fun z => eqvD z (pD q))) else none) = _
  rw [pD_ok ps 57, pD_any]
  rfl
theorem ix_ps (o : Bool) {ps : Prs} {q : Nat × Nat} (h : q ∈ ps) : indexD (.lst o (ps.map pD)) (pD q) = some (.int (ps.idxOf q)) := by
  show (if eqOk 60 (pD q) && eqOks 59 (ps.map pD) then ((ps.map pD).findIdx? fun z => eqvD z (pD q)).map (fun j => D.int (j : Nat)) else none) = _
  rw [pD_ok ps 57]
  have e : ∀ ps : Prs, q ∈ ps → (ps.map pD).findIdx? (fun z => eqvD z (pD q)) = some (ps.idxOf q) := by
    intro ps
    induction ps with
    | nil => intro h; cases h
    | cons p ps ih =>
      intro h
      rw [List.map_cons, List.findIdx?_cons, pD_eqv, List.idxOf_cons]
      by_cases hp : p = q
      · subst hp; simp
      · have hq : q ∈ ps := by
          rcases List.mem_cons.mp h with h | h
          · exact absurd h.symm hp
          · exact h
        have hb : (p == q) = false := by simpa using hp
        rw [ih hq]
        simp [hp, hb]
  rw [e ps h]
  rfl
/-- the table of numbers -/
def nmk (i : Nat) : Prs → List (List Key × D)
  | [] => []
  | p :: ps => ([.inl p.1, .inl p.2], .int i) :: nmk (i + 1) ps
theorem nmk_get (q : Nat × Nat) : ∀ (ps : Prs) (i : Nat), getK (nmk i ps) [.inl (q.1 : Int), .inl (q.2 : Int)] = if q ∈ ps then some (.int ((i + ps.idxOf q : Nat) : Int)) else none
  | [], i => by simp [nmk, getK]
  | p :: ps, i => by
    have ih := nmk_get q ps (i + 1)
    unfold nmk getK
    rw [List.find?_cons]
    by_cases hp : p = q
    · subst hp; simp
    · have hk : ¬ ([Sum.inl (p.1 : Int), Sum.inl (p.2 : Int)] : List Key) = [.inl (q.1 : Int), .inl (q.2 : Int)] := by
        intro h
        apply hp
        obtain ⟨a, b⟩ := p
        obtain ⟨c, d⟩ := q
        simp at h
        have e1 : a = c := by omega
        have e2 : b = d := by omega
        rw [e1, e2]
      have hb : (p == q) = false := by simpa using hp
      have hq : ¬ q = p := fun e => hp e.symm
      unfold getK at ih
      simp only [hk, decide_false]
      rw [ih, List.idxOf_cons, hb]
      by_cases hm : q ∈ ps
      · simp [hm, hq]; omega
      · simp [hm, hq]
theorem nmk_len (ps : Prs) : ∀ i, (nmk i ps).length = ps.length := by
  induction ps with
  | nil => intro i; rfl
  | cons p ps ih => intro i; simp [nmk, ih]
theorem nmk_snoc (q : Nat × Nat) : ∀ (ps : Prs) (i : Nat), nmk i (ps ++ [q]) = nmk i ps ++ [([.inl (q.1 : Int), .inl (q.2 : Int)], .int ((i + ps.length : Nat) : Int))]
  | [], i => rfl
  | p :: ps, i => by
    show _ :: nmk (i + 1) (ps ++ [q]) = _ :: (nmk (i + 1) ps ++ _)
    rw [nmk_snoc q ps (i + 1)]
    have : i + 1 + ps.length = i + (p :: ps).length := by simp; omega
    rw [this]
theorem inB_ps (o : Bool) (ps : Prs) (q : Nat × Nat) : notinB (pD q) (.lst o (ps.map pD)) = some (.bl (!decide (q ∈ ps))) := by
  unfold notinB
  rw [in_ps]
theorem in_nm (o : Bool) (ps : Prs) (q : Nat × Nat) : notinB (pD q) (.dt o (nmk 0 ps)) = some (.bl (!decide (q ∈ ps))) := by
  have h : inD (pD q) (.dt o (nmk 0 ps)) = some (.bl (getK (nmk 0 ps) [.inl (q.1 : Int), .inl (q.2 : Int)]).isSome) := rfl
  unfold notinB
  rw [h, nmk_get]
  by_cases hm : q ∈ ps <;> simp [hm]
theorem ix_nm (o : Bool) {ps : Prs} {q : Nat × Nat} (h : q ∈ ps) : ixD (.dt o (nmk 0 ps)) (pD q) = some (.int (ps.idxOf q)) := by
  have e : ixD (.dt o (nmk 0 ps)) (pD q) = getK (nmk 0 ps) [.inl (q.1 : Int), .inl (q.2 : Int)] := rfl
  rw [e, nmk_get, if_pos h]
  simp
theorem nmk_none {q : Nat × Nat} : ∀ (ps : Prs) (i : Nat), q ∉ ps → ((nmk i ps).any fun kv => decide (kv.1 = [.inl (q.1 : Int), .inl (q.2 : Int)])) = false
  | [], i, _ => rfl
  | p :: ps, i, h => by
    have h1 : p ≠ q := fun e => h (e ▸ List.mem_cons_self ..)
    have h2 : q ∉ ps := fun e => h (List.mem_cons_of_mem _ e)
    show (decide (([Sum.inl (p.1 : Int), Sum.inl (p.2 : Int)] : List Key) = _) || _) = false
    rw [nmk_none ps (i + 1) h2, Bool.or_false, decide_eq_false_iff_not]
    intro e
    apply h1
    obtain ⟨a, b⟩ := p
    obtain ⟨c, d⟩ := q
    simp at e
    have e1 : a = c := by omega
    have e2 : b = d := by omega
    rw [e1, e2]
theorem set_nm {ps : Prs} {q : Nat × Nat} (h : q ∉ ps) (hl : ps.length < 1000000) : setD (.dt true (nmk 0 ps)) (pD q) (.int ps.length) = some (.dt true (nmk 0 (ps ++ [q]))) := by
  have e : setD (.dt true (nmk 0 ps)) (pD q) (.int ps.length) = if (nmk 0 ps).length < LIM then some (.dt true (putD (nmk 0 ps) [.inl (q.1 : Int), .inl (q.2 : Int)] (frz (.int ps.length)))) else none := rfl
  rw [e, nmk_len, if_pos (by simpa using hl), nmk_snoc]
  unfold putD
  rw [nmk_none ps 0 h]
  simp
end LW

namespace LW
open PySem PySem.Spec L2 EV
theorem jst_none_l (ps : Prs) (r : Stp) : jst ps none r = (ps, none) := by cases r <;> rfl
theorem jst_none_r (ps : Prs) (l : Stp) : jst ps l none = (ps, none) := by
  cases l with
  | none => rfl
  | some x => obtain ⟨a, b, c⟩ := x; rfl
theorem step_ok (ps : Prs) (l r : Stp) (hl : ps.length < 1000) : c_4 [stD l, stD r, .dt true (nmk 0 ps), .lst true (ps.map pD)] = .ok (jsD (jst ps l r).2) [.dt true (nmk 0 (jst ps l r).1), .lst true ((jst ps l r).1.map pD)] := by
  cases l with
  | none =>
    rw [jst_none_l]
    unfold c_4 callF m_4
    simp [stD, jsD]
  | some x =>
    obtain ⟨t1, w1, r1⟩ := x
    cases r with
    | none =>
      rw [jst_none_r]
      unfold c_4 callF m_4
      simp [stD, jsD]
    | some y =>
      obtain ⟨t2, w2, r2⟩ := y
      by_cases ht : t1 = t2
      · subst ht
        have e1 : (D.tup [.int (r1 : Int), .int (r2 : Int)]) = pD (r1, r2) := rfl
        have hz := pD_fzs ps
        by_cases hm : (r1, r2) ∈ ps
        · have ej : jst ps (some (t1, w1, r1)) (some (t1, w2, r2)) = (ps, some (t1, (w1, w2), ps.idxOf (r1, r2))) := by simp [jst, hm]
          rw [ej]
          have g1 := in_nm false ps (r1, r2)
          have g2 := ix_nm false hm
          simp only [hm, decide_true, Bool.not_true] at g1
          unfold c_4 callF m_4
          simp [stD, jsD, at0, at1, at2, g1, g2]
        · have ej : jst ps (some (t1, w1, r1)) (some (t1, w2, r2)) = (ps ++ [(r1, r2)], some (t1, (w1, w2), (ps ++ [(r1, r2)]).idxOf (r1, r2))) := by simp [jst, hm]
          rw [ej]
          have g1 := in_nm false ps (r1, r2)
          have g2 := ix_nm false (ps := ps ++ [(r1, r2)]) (q := (r1, r2)) (by simp)
          have g3 := set_nm hm (by omega : ps.length < 1000000)
          have hl2 : ps.length < 1000000 := by omega
          simp only [hm, decide_false, Bool.not_false] at g1
          unfold c_4 callF m_4
          simp [stD, jsD, at0, at1, at2, g1, g3, hz, hl2]
          have g2' : ixD (D.dt false (nmk 0 (ps ++ [(r1, r2)]))) (D.tup [.int (r1 : Int), .int (r2 : Int)]) = some (.int ((ps ++ [(r1, r2)]).idxOf (r1, r2) : Nat)) := g2
          rw [g2']
          simp
      · have ej : jst ps (some (t1, w1, r1)) (some (t2, w2, r2)) = (ps, none) := by simp [jst, ht]
        rw [ej]
        have hb : (t1 == t2) = false := by simpa using ht
        unfold c_4 callF m_4
        simp [stD, jsD, at0, hb]
/-- a row of one room with all of the other's signs, then of all signs of both -/
def jin (l : Stp) : List Stp → Prs → List JS → Prs × List JS
  | [], ps, acc => (ps, acc)
  | r :: rs, ps, acc => jin l rs (jst ps l r).1 (acc ++ [(jst ps l r).2])
def jout (rs : List Stp) : List Stp → Prs → List JS → Prs × List JS
  | [], ps, acc => (ps, acc)
  | l :: ls, ps, acc => jout rs ls (jin l rs ps acc).1 (jin l rs ps acc).2
theorem jst_len (ps : Prs) (l r : Stp) : (jst ps l r).1.length ≤ ps.length + 1 := by
  unfold jst
  split
  · split
    · dsimp only; split
      · omega
      · simp
    · dsimp only; omega
  · dsimp only; omega
theorem jin_len (l : Stp) : ∀ (rs : List Stp) (ps : Prs) (acc : List JS), (jin l rs ps acc).1.length ≤ ps.length + rs.length ∧ (jin l rs ps acc).2.length = acc.length + rs.length
  | [], ps, acc => ⟨Nat.le_refl _, rfl⟩
  | r :: rs, ps, acc => by
    have h := jin_len l rs (jst ps l r).1 (acc ++ [(jst ps l r).2])
    have h2 := jst_len ps l r
    unfold jin
    simp at h ⊢
    omega
theorem jout_len (rs : List Stp) : ∀ (ls : List Stp) (ps : Prs) (acc : List JS), (jout rs ls ps acc).1.length ≤ ps.length + ls.length * rs.length ∧ (jout rs ls ps acc).2.length = acc.length + ls.length * rs.length
  | [], ps, acc => by simp [jout]
  | l :: ls, ps, acc => by
    have h := jout_len rs ls (jin l rs ps acc).1 (jin l rs ps acc).2
    have h2 := jin_len l rs ps acc
    unfold jout
    have e : (l :: ls).length * rs.length = ls.length * rs.length + rs.length := by rw [List.length_cons, Nat.add_mul, Nat.one_mul]
    rw [e]
    omega
end LW

namespace LW
open PySem PySem.Spec L2 EV
/-- joined_words' frame -/
abbrev je (m t o u ro fs rs : Option D) (ps : Prs) (x9 x10 : Option D) : DEnv := [m, t, o, u, some (.lst true (ps.map pD)), some (.dt true (nmk 0 ps)), ro, fs, rs, x9, x10]
theorem jsD_fz (s : JS) : fz (jsD s) = true := by
  cases s with
  | none => rfl
  | some x => obtain ⟨t, w, r⟩ := x; rfl
theorem jsDs_fz (row : List JS) : fzs (row.map jsD) = true := fzs_of fun d hd => by
  obtain ⟨s, _, rfl⟩ := List.mem_map.mp hd
  exact jsD_fz s
theorem q51_ok {m t o u ro fs rs : Option D} (ps : Prs) (l r : Stp) (hl : ps.length < 1000) : q_5_1 (je m t o u ro fs rs ps (some (stD l)) (some (stD r))) = .ok (jsD (jst ps l r).2) (je m t o u ro fs rs (jst ps l r).1 (some (stD l)) (some (stD r))) := by
  have h := step_ok ps l r hl
  have h1 := stD_fz l
  have h2 := stD_fz r
  have h3 := frz_of _ (jsD_fz (jst ps l r).2)
  unfold q_5_1
  simp [h, h1, h2, h3]
theorem jin_ok {m t o u ro fs rs0 : Option D} (l : Stp) : ∀ (rs : List Stp) (ps : Prs) (acc : List JS), ps.length + rs.length < 1000 → acc.length + rs.length < 1000 →
    lcL [10] (.v 10) mTrue q_5_1 (rs.map stD) (acc.map jsD) (je m t o u ro fs rs0 ps (some (stD l)) none) = .ok ((jin l rs ps acc).2.map jsD) (je m t o u ro fs rs0 (jin l rs ps acc).1 (some (stD l)) none)
  | [], ps, acc, _, _ => by simp [lcL, jin]
  | r :: rs, ps, acc, h1, h2 => by
    have hq := q51_ok (m := m) (t := t) (o := o) (u := u) (ro := ro) (fs := fs) (rs := rs0) ps l r (by simp at h1; omega)
    have hj := jst_len ps l r
    have ih := jin_ok (m := m) (t := t) (o := o) (u := u) (ro := ro) (fs := fs) (rs0 := rs0) l rs (jst ps l r).1 (acc ++ [(jst ps l r).2]) (by simp at h1; omega) (by simp at h2 ⊢; omega)
    have hl : acc.length < 1000000 := by simp at h2; omega
    simp only [List.map_cons, lcL, put_v, List.set_cons_succ, List.set_cons_zero, ap_true]
    rw [hq]
    simp only [List.length_map, LIM_is, hl, if_true, wipe_cons, wipe_nil, List.set_cons_succ, List.set_cons_zero]
    rw [show acc.map jsD ++ [jsD (jst ps l r).2] = (acc ++ [(jst ps l r).2]).map jsD from by simp, ih]
    rfl
theorem jout_ok {m t o u ro fs : Option D} (rs : List Stp) : ∀ (ls : List Stp) (ps : Prs) (acc : List JS), ps.length + ls.length * rs.length + rs.length < 1000 → acc.length + ls.length * rs.length + rs.length < 1000 →
    lcL2 [9, 10] (.v 9) mTrue [10] (.v 10) (mIt (mV 8)) mTrue q_5_1 (ls.map stD) (acc.map jsD) (je m t o u ro fs (some (rwD rs)) ps none none) = .ok ((jout rs ls ps acc).2.map jsD) (je m t o u ro fs (some (rwD rs)) (jout rs ls ps acc).1 none none)
  | [], ps, acc, _, _ => by simp [lcL2, jout]
  | l :: ls, ps, acc, h1, h2 => by
    have e : (l :: ls).length * rs.length = ls.length * rs.length + rs.length := by rw [List.length_cons, Nat.add_mul, Nat.one_mul]
    rw [e] at h1 h2
    have hj := jin_len l rs ps acc
    have hin := jin_ok (m := m) (t := t) (o := o) (u := u) (ro := ro) (fs := fs) (rs0 := some (rwD rs)) l rs ps acc (by omega) (by omega)
    have ih := jout_ok (m := m) (t := t) (o := o) (u := u) (ro := ro) (fs := fs) rs ls (jin l rs ps acc).1 (jin l rs ps acc).2 (by omega) (by omega)
    have hz := stDs_fz rs
    have hf := frzs_of hz
    simp only [List.map_cons, lcL2, put_v, List.set_cons_succ, List.set_cons_zero, ap_true]
    simp [hz, hf]
    rw [hin]
    simp
    rw [ih]
    rfl
end LW

namespace LW
open PySem PySem.Spec L2 EV
theorem nodup_lt : ∀ (n : Nat) (l : List Nat), l.Nodup → (∀ x ∈ l, x < n) → l.length ≤ n
  | 0, l, _, h => by
    cases l with
    | nil => simp
    | cons x l => exact absurd (h x (List.mem_cons_self ..)) (Nat.not_lt_zero _)
  | n + 1, l, hn, h => by
    by_cases hm : n ∈ l
    · have h1 := nodup_lt n (l.erase n) (hn.erase n) (fun x hx => by
        have := (hn.mem_erase_iff).mp hx
        have := h x this.2
        omega)
      rw [List.length_erase_of_mem hm] at h1
      omega
    · have := nodup_lt n l hn (fun x hx => by
        have h1 := h x hx
        have : x ≠ n := fun e => hm (e ▸ hx)
        omega)
      omega
/-- pairs of rooms, each once -/
structure Pok (r1 r2 : Nat) (ps : Prs) : Prop where
  nd : ps.Nodup
  lt : ∀ p ∈ ps, p.1 < r1 ∧ p.2 < r2
theorem Pok.len {r1 r2 : Nat} {ps : Prs} (h : Pok r1 r2 ps) : ps.length ≤ r1 * r2 := by
  have h1 : (ps.map fun p => p.1 * r2 + p.2).Nodup := by
    refine List.Pairwise.map _ (fun a b hab => hab) (List.Pairwise.imp_of_mem (fun {a b} ha hb hne e => ?_) h.nd)
    have h2 := h.lt a ha
    have h3 := h.lt b hb
    apply hne
    have e1 : a.1 = b.1 := by
      have x1 : (a.1 * r2 + a.2) / r2 = a.1 := by rw [Nat.mul_comm, Nat.mul_add_div (by omega)]; rw [Nat.div_eq_of_lt h2.2]; omega
      have x2 : (b.1 * r2 + b.2) / r2 = b.1 := by rw [Nat.mul_comm, Nat.mul_add_div (by omega)]; rw [Nat.div_eq_of_lt h3.2]; omega
      rw [← x1, ← x2, e]
    have e2 : a.2 = b.2 := by rw [e1] at e; omega
    exact Prod.ext e1 e2
  have h2 := nodup_lt (r1 * r2) _ h1 (fun x hx => by
    obtain ⟨p, hp, rfl⟩ := List.mem_map.mp hx
    have h3 := h.lt p hp
    have : p.1 * r2 + r2 ≤ r1 * r2 := by
      rw [← Nat.succ_mul]
      exact Nat.mul_le_mul_right _ h3.1
    omega)
  simpa using h2
theorem jst_pok {r1 r2 : Nat} {ps : Prs} {l r : Stp} (h : Pok r1 r2 ps) (hl : okS r1 l) (hr : okS r2 r) : Pok r1 r2 (jst ps l r).1 := by
  unfold jst
  split
  · rename_i t1 w1 q1 t2 w2 q2
    split
    · dsimp only
      split
      · exact h
      · rename_i hm
        refine ⟨List.nodup_append.mpr ⟨h.nd, by simp, fun a ha b hb e => ?_⟩, fun p hp => ?_⟩
        · rw [List.mem_singleton.mp hb] at e
          exact hm (e ▸ ha)
        · rcases List.mem_append.mp hp with hp | hp
          · exact h.lt p hp
          · rw [List.mem_singleton.mp hp]
            exact ⟨hl _ _ _ rfl, hr _ _ _ rfl⟩
    · exact h
  · exact h
theorem jin_pok {r1 r2 : Nat} {l : Stp} (hl : okS r1 l) : ∀ (rs : List Stp) (ps : Prs) (acc : List JS), (∀ s ∈ rs, okS r2 s) → Pok r1 r2 ps → Pok r1 r2 (jin l rs ps acc).1
  | [], _, _, _, h => h
  | r :: rs, ps, acc, hr, h => jin_pok hl rs _ _ (fun s hs => hr s (List.mem_cons_of_mem _ hs)) (jst_pok h hl (hr r (List.mem_cons_self ..)))
theorem jout_pok {r1 r2 : Nat} {rs : List Stp} (hr : ∀ s ∈ rs, okS r2 s) : ∀ (ls : List Stp) (ps : Prs) (acc : List JS), (∀ s ∈ ls, okS r1 s) → Pok r1 r2 ps → Pok r1 r2 (jout rs ls ps acc).1
  | [], _, _, _, h => h
  | l :: ls, ps, acc, hl, h => jout_pok hr ls _ _ (fun s hs => hl s (List.mem_cons_of_mem _ hs)) (jin_pok (hl l (List.mem_cons_self ..)) rs ps acc hr h)
end LW

namespace LW
open PySem PySem.Spec L2 EV
abbrev jrD (row : List JS) : D := .tup (row.map jsD)
theorem jrD_fzs (W : List (List JS)) : fzs (W.map jrD) = true := fzs_of fun d hd => by
  obtain ⟨s, _, rfl⟩ := List.mem_map.mp hd
  exact jsDs_fz s
/-- the room that is met as the n-th -/
def jrw (one two : List (List Stp)) (ps : Prs) (n : Nat) : Prs × List JS := jout (two.getD (ps.getD n (0, 0)).2 []) (one.getD (ps.getD n (0, 0)).1 []) ps []
def jrun (one two : List (List Stp)) : Nat → Prs → List (List JS) → Prs × List (List JS)
  | 0, ps, rs => (ps, rs)
  | k + 1, ps, rs => if rs.length < ps.length then jrun one two k (jrw one two ps rs.length).1 (rs ++ [(jrw one two ps rs.length).2]) else (ps, rs)
theorem bk_get {W : List (List Stp)} {ro si n : Nat} (h : Bk W ro si) (hn : n < ro) : ∃ row, W[n]? = some row ∧ W.getD n [] = row ∧ row.length = si ∧ (∀ s ∈ row, okS ro s) ∧ atI (W.map rwD) (n : Int) = some (rwD row) := by
  have hl : n < W.length := by rw [h.len]; exact hn
  have hm := h.row _ (List.getElem_mem hl)
  refine ⟨W[n], by simp [hl], by simp [hl], hm.1, hm.2, atI_map' rwD W n hl⟩
theorem jst_pre (ps : Prs) (l r : Stp) : ps <+: (jst ps l r).1 := by
  unfold jst
  split
  · split
    · dsimp only; split
      · exact List.prefix_refl _
      · exact List.prefix_append _ _
    · exact List.prefix_refl _
  · exact List.prefix_refl _
theorem jin_pre (l : Stp) : ∀ (rs : List Stp) (ps : Prs) (acc : List JS), ps <+: (jin l rs ps acc).1
  | [], ps, _ => List.prefix_refl _
  | r :: rs, ps, acc => (jst_pre ps l r).trans (jin_pre l rs _ _)
theorem jout_pre (rs : List Stp) : ∀ (ls : List Stp) (ps : Prs) (acc : List JS), ps <+: (jout rs ls ps acc).1
  | [], ps, _ => List.prefix_refl _
  | l :: ls, ps, acc => (jin_pre l rs ps acc).trans (jout_pre rs ls _ _)
theorem jrw_pre (one two : List (List Stp)) (ps : Prs) (n : Nat) : ps <+: (jrw one two ps n).1 := jout_pre _ _ _ _
theorem jrw_pok {one two : List (List Stp)} {r1 r2 s1 s2 : Nat} (h1 : Bk one r1 s1) (h2 : Bk two r2 s2) {ps : Prs} (hp : Pok r1 r2 ps) {n : Nat} (hn : n < ps.length) : Pok r1 r2 (jrw one two ps n).1 := by
  have hm : ps.getD n (0, 0) ∈ ps := by simp [hn]
  have hlt := hp.lt _ hm
  obtain ⟨a, _, ha, _, ha2, _⟩ := bk_get h1 hlt.1
  obtain ⟨b, _, hb, _, hb2, _⟩ := bk_get h2 hlt.2
  unfold jrw
  rw [ha, hb]
  exact jout_pok hb2 a ps [] ha2 hp
abbrev we (m t o u : Option D) (ps : Prs) (rs : List (List JS)) (x7 x8 : Option D) : DEnv := je m t o u (some (.lst true (rs.map jrD))) x7 x8 ps none none
theorem s53_ok {m t : Option D} {one two : List (List Stp)} {r1 r2 s1 s2 : Nat} (h1 : Bk one r1 s1) (h2 : Bk two r2 s2) {ps : Prs} {rs : List (List JS)} (hp : Pok r1 r2 ps) (hn : rs.length < ps.length) (x7 x8 : Option D) :
    ∃ x7' x8', s_5_3 (we m t (some (bkD one)) (some (bkD two)) ps rs x7 x8) = .nx (we m t (some (bkD one)) (some (bkD two)) (jrw one two ps rs.length).1 (rs ++ [(jrw one two ps rs.length).2]) x7' x8') := by
  have hm : ps[rs.length] ∈ ps := List.getElem_mem hn
  have hlt := hp.lt _ hm
  obtain ⟨a, ha0, ha, ha1, ha2, ha3⟩ := bk_get h1 hlt.1
  obtain ⟨b, hb0, hb, hb1, hb2, hb3⟩ := bk_get h2 hlt.2
  have hps := hp.len
  have hb16 : r1 * r2 ≤ 16 := Nat.le_trans (Nat.mul_le_mul h1.ro1 h2.ro1) (by decide)
  have hs16 : s1 * s2 ≤ 16 := Nat.le_trans (Nat.mul_le_mul h1.si1 h2.si1) (by decide)
  have hs4 := h2.si1
  have ej : jrw one two ps rs.length = jout b a ps [] := by
    unfold jrw
    have : ps.getD rs.length (0, 0) = ps[rs.length] := by simp [hn]
    rw [this, ha, hb]
  have hj := jout_ok (m := m) (t := t) (o := some (bkD one)) (u := some (bkD two)) (ro := some (.lst true (rs.map jrD))) (fs := some (rwD a)) b a ps [] (by rw [ha1, hb1]; omega) (by rw [ha1, hb1]; simp; omega)
  have z1 := rwD_fzs one
  have z2 := rwD_fzs two
  have z3 := pD_fzs ps
  have z4 := jrD_fzs rs
  have z5 := stDs_fz a
  have z6 := stDs_fz b
  have f5 := frzs_of z5
  have f6 := frzs_of z6
  have z7 := jsDs_fz (jout b a ps []).2
  have hl : rs.length < 1000000 := by omega
  have ix : atI (ps.map pD) (rs.length : Int) = some (pD ps[rs.length]) := atI_map' pD ps rs.length hn
  refine ⟨some (rwD a), some (rwD b), ?_⟩
  rw [ej]
  unfold s_5_3
  simp [z1, z2, z3, z4, ix, at0, at1, ha3, hb3, z5, z6, f5, f6]
  have hj : lcL2 [9, 10] (.v 9) mTrue [10] (.v 10) (mIt (mV 8)) mTrue q_5_1 (a.map stD) [] (je m t (some (bkD one)) (some (bkD two)) (some (.lst true (rs.map jrD))) (some (rwD a)) (some (rwD b)) ps none none) = _ := hj
  rw [hj]
  have f7 := frzs_of z7
  simp [f7, z7, tupleD, hl]
/-- the walk of all rooms that can be met together -/
theorem while_ok {m t : Option D} {one two : List (List Stp)} {r1 r2 s1 s2 : Nat} (h1 : Bk one r1 s1) (h2 : Bk two r2 s2) :
    ∃ x7 x8, whileN t_5_2 s_5_3 FUEL (we m t (some (bkD one)) (some (bkD two)) [(0, 0)] [] none none) = .nx (we m t (some (bkD one)) (some (bkD two)) (jrun one two (r1 * r2) [(0, 0)] []).1 (jrun one two (r1 * r2) [(0, 0)] []).2 x7 x8) := by
  have hb16 : r1 * r2 ≤ 16 := Nat.le_trans (Nat.mul_le_mul h1.ro1 h2.ro1) (by decide)
  refine whileN_rule (t := t_5_2) (m := s_5_3) (fun r => ∃ x7 x8, r = .nx (we m t (some (bkD one)) (some (bkD two)) (jrun one two (r1 * r2) [(0, 0)] []).1 (jrun one two (r1 * r2) [(0, 0)] []).2 x7 x8))
    (fun μ e => ∃ ps rs x7 x8, μ + rs.length = r1 * r2 ∧ Pok r1 r2 ps ∧ rs.length ≤ ps.length ∧ jrun one two μ ps rs = jrun one two (r1 * r2) [(0, 0)] [] ∧ e = we m t (some (bkD one)) (some (bkD two)) ps rs x7 x8) ?_ FUEL (r1 * r2) _ ⟨[(0, 0)], [], none, none, rfl, ⟨by simp, fun p hp => by rw [List.mem_singleton.mp hp]; exact ⟨h1.ro0, h2.ro0⟩⟩, by simp, rfl, rfl⟩ (by rw [FUEL_eq]; omega)
  rintro μ e ⟨ps, rs, x7, x8, hμ, hp, hle, hr, rfl⟩
  have z3 := pD_fzs ps
  have z4 := jrD_fzs rs
  have hlen := hp.len
  by_cases hn : rs.length < ps.length
  · have ht : t_5_2 (we m t (some (bkD one)) (some (bkD two)) ps rs x7 x8) = .ok (.bl true) (we m t (some (bkD one)) (some (bkD two)) ps rs x7 x8) := by
      unfold t_5_2
      simp [z3, z4, hn]
    rw [ht]
    simp only [stB_ok, if_true]
    obtain ⟨y7, y8, h3⟩ := s53_ok (m := m) (t := t) h1 h2 hp hn x7 x8
    rw [h3]
    obtain ⟨μ', rfl⟩ : ∃ μ', μ = μ' + 1 := ⟨μ - 1, by omega⟩
    have hpj := jrw_pok h1 h2 hp hn
    refine ⟨μ', Nat.lt_succ_self _, _, _, y7, y8, by simp; omega, hpj, ?_, ?_, rfl⟩
    · have := (jrw_pre one two ps rs.length).length_le
      simp; omega
    · rw [← hr]
      conv => rhs; unfold jrun
      rw [if_pos hn]
  · have ht : t_5_2 (we m t (some (bkD one)) (some (bkD two)) ps rs x7 x8) = .ok (.bl false) (we m t (some (bkD one)) (some (bkD two)) ps rs x7 x8) := by
      unfold t_5_2
      simp [z3, z4, hn]
    rw [ht]
    simp only [stB_ok]
    have e : jrun one two μ ps rs = (ps, rs) := by
      cases μ with
      | zero => rfl
      | succ μ => unfold jrun; rw [if_neg hn]
    rw [← hr, e]
    exact ⟨x7, x8, rfl⟩
theorem jrs_ok (rs : List (List JS)) : frzs (rs.map jrD) = rs.map jrD := frzs_of (jrD_fzs rs)
theorem bkD_fz (W : List (List Stp)) : fz (bkD W) = true := rwD_fzs W
/-- joined_words -/
theorem joined_ok {m t : D} (hm : fz m = true) (ht : fz t = true) {one two : List (List Stp)} {r1 r2 s1 s2 : Nat} (h1 : Bk one r1 s1) (h2 : Bk two r2 s2) :
    c_5 [m, t, bkD one, bkD two] = .ok (.tup [m, t, .tup ((jrun one two (r1 * r2) [(0, 0)] []).2.map jrD)]) [] := by
  obtain ⟨x7, x8, h3⟩ := while_ok (m := some m) (t := some t) h1 h2
  have z4 := jrD_fzs (jrun one two (r1 * r2) [(0, 0)] []).2
  have h3 : whileN t_5_2 s_5_3 FUEL [some m, some t, some (bkD one), some (bkD two), some (.lst true [.tup [.int 0, .int 0]]), some (.dt true [([.inl 0, .inl 0], .int 0)]), some (.lst true []), none, none, none, none] = _ := h3
  unfold c_5 callF m_5
  simp [mDisp1T, keysD, keyD, h3, hm, ht, z4, tupleD]
end LW

namespace LW
open PySem PySem.Spec L2 EV
/-- the law's own frame of two books -/
abbrev le (o u : Option D) (ps : Prs) (ro tn : Option D) (acc : List JS) (x6 x7 : Option D) : DEnv := [o, u, some (.lst true (ps.map pD)), ro, tn, some (.lst true (acc.map jsD)), x6, x7]
@[simp] theorem ap_idx {k : Nat} {ob : Op} {e : DEnv} : mIdx k ob e = match e[k]? with
  | some (some (.lst _ _)) => (ob.run e).bind fun p e1 => (PV.v k).see e1 fun dl e2 => p.see e2 fun d e3 => RE.of (indexD dl d) e3
  | _ => .no := rfl
theorem s141_ok {o u ro tn : Option D} (ps : Prs) (acc : List JS) (l r : Stp) (hl : ps.length < 1000) (ha : acc.length < 1000) :
    s_14_1 (le o u ps ro tn acc (some (stD l)) (some (stD r))) = .nx (le o u (jst ps l r).1 ro tn (acc ++ [(jst ps l r).2]) (some (stD l)) (some (stD r))) ∨
    s_14_1 (le o u ps ro tn acc (some (stD l)) (some (stD r))) = .ct (le o u (jst ps l r).1 ro tn (acc ++ [(jst ps l r).2]) (some (stD l)) (some (stD r))) := by
  have ha2 : acc.length < 1000000 := by omega
  cases l with
  | none =>
    right
    rw [jst_none_l]
    unfold s_14_1
    simp [stD, jsD, ha2]
  | some x =>
    obtain ⟨t1, w1, r1⟩ := x
    cases r with
    | none =>
      right
      rw [jst_none_r]
      unfold s_14_1
      simp [stD, jsD, ha2]
    | some y =>
      obtain ⟨t2, w2, r2⟩ := y
      by_cases ht : t1 = t2
      · left
        subst ht
        have hz := pD_fzs ps
        have g1 := inB_ps false ps (r1, r2)
        by_cases hm : (r1, r2) ∈ ps
        · have ej : jst ps (some (t1, w1, r1)) (some (t1, w2, r2)) = (ps, some (t1, (w1, w2), ps.idxOf (r1, r2))) := by simp [jst, hm]
          rw [ej]
          have g2 := ix_ps false hm
          simp only [hm, decide_true, Bool.not_true] at g1
          unfold s_14_1
          have g2' : indexD (.lst false (ps.map pD)) (.tup [.int (r1 : Int), .int (r2 : Int)]) = some (.int (ps.idxOf (r1, r2) : Nat)) := g2
          have g1' : notinB (.tup [.int (r1 : Int), .int (r2 : Int)]) (.lst false (ps.map pD)) = some (.bl false) := g1
          simp [stD, jsD, at0, at1, at2, g1', g2', hz, ha2]
        · have ej : jst ps (some (t1, w1, r1)) (some (t1, w2, r2)) = (ps ++ [(r1, r2)], some (t1, (w1, w2), (ps ++ [(r1, r2)]).idxOf (r1, r2))) := by simp [jst, hm]
          rw [ej]
          have g2 := ix_ps false (ps := ps ++ [(r1, r2)]) (q := (r1, r2)) (by simp)
          have hl2 : ps.length < 1000000 := by omega
          have hz2 := pD_fzs (ps ++ [(r1, r2)])
          simp only [hm, decide_false, Bool.not_false] at g1
          have g2' : indexD (.lst false (ps.map pD ++ [.tup [.int (r1 : Int), .int (r2 : Int)]])) (.tup [.int (r1 : Int), .int (r2 : Int)]) = some (.int ((ps ++ [(r1, r2)]).idxOf (r1, r2) : Nat)) := by
            rw [← g2]; simp
          have g1' : notinB (.tup [.int (r1 : Int), .int (r2 : Int)]) (.lst false (ps.map pD)) = some (.bl true) := g1
          have hz3 : fzs (ps.map pD ++ [.tup [.int (r1 : Int), .int (r2 : Int)]]) = true := by
            rw [← hz2]; simp
          unfold s_14_1
          simp [stD, jsD, at0, at1, at2, g1', g2', hz, hz3, ha2, hl2]
      · right
        have ej : jst ps (some (t1, w1, r1)) (some (t2, w2, r2)) = (ps, none) := by simp [jst, ht]
        rw [ej]
        have hb : (t1 == t2) = false := by simpa using ht
        unfold s_14_1
        simp [stD, jsD, at0, hb, ha2]
end LW

namespace LW
open PySem PySem.Spec L2 EV
theorem in14 {o u ro tn : Option D} (l : Stp) : ∀ (rs : List Stp) (ps : Prs) (acc : List JS) (x7 : Option D), ps.length + rs.length < 1000 → acc.length + rs.length < 1000 →
    ∃ x7', forL (.v 7) s_14_1 (rs.map stD) (le o u ps ro tn acc (some (stD l)) x7) = .nx (le o u (jin l rs ps acc).1 ro tn (jin l rs ps acc).2 (some (stD l)) x7')
  | [], ps, acc, x7, _, _ => ⟨x7, by simp [forL, jin]⟩
  | r :: rs, ps, acc, x7, h1, h2 => by
    have hj := jst_len ps l r
    obtain ⟨y7, ih⟩ := in14 (o := o) (u := u) (ro := ro) (tn := tn) l rs (jst ps l r).1 (acc ++ [(jst ps l r).2]) (some (stD r)) (by simp at h1; omega) (by simp at h2 ⊢; omega)
    refine ⟨y7, ?_⟩
    simp only [List.map_cons, forL, put_v, List.set_cons_succ, List.set_cons_zero]
    rcases s141_ok (o := o) (u := u) (ro := ro) (tn := tn) ps acc l r (by simp at h1; omega) (by simp at h2; omega) with h | h
    · rw [h]; exact ih
    · rw [h]; exact ih
theorem pre_get {ps qs : Prs} (h : ps <+: qs) {n : Nat} {p : Nat × Nat} (hp : ps[n]? = some p) : qs[n]? = some p := by
  obtain ⟨t, rfl⟩ := h
  rw [List.getElem?_append_left (List.getElem?_eq_some_iff.mp hp).1]; exact hp
theorem pix {ps : Prs} {n : Nat} {p : Nat × Nat} (hp : ps[n]? = some p) : atI (ps.map pD) (n : Int) = some (pD p) := by
  obtain ⟨h1, h2⟩ := List.getElem?_eq_some_iff.mp hp
  rw [atI_map' pD ps n h1, h2]
theorem out14 {o ro : Option D} {two : List (List Stp)} {r2 s2 n : Nat} (h2 : Bk two r2 s2) {p : Nat × Nat} {b : List Stp} (hb : atI (two.map rwD) (p.2 : Int) = some (rwD b)) : ∀ (ls : List Stp) (ps : Prs) (acc : List JS) (x6 x7 : Option D), ps[n]? = some p →
    ps.length + ls.length * b.length + b.length < 1000 → acc.length + ls.length * b.length + b.length < 1000 →
    ∃ x6' x7', forL (.v 6) s_14_2 (ls.map stD) (le o (some (bkD two)) ps ro (some (.int (n : Nat))) acc x6 x7) = .nx (le o (some (bkD two)) (jout b ls ps acc).1 ro (some (.int (n : Nat))) (jout b ls ps acc).2 x6' x7')
  | [], ps, acc, x6, x7, _, _, _ => ⟨x6, x7, by simp [forL, jout]⟩
  | l :: ls, ps, acc, x6, x7, hp, h1, h3 => by
    have e : (l :: ls).length * b.length = ls.length * b.length + b.length := by rw [List.length_cons, Nat.add_mul, Nat.one_mul]
    rw [e] at h1 h3
    have hj := jin_len l b ps acc
    obtain ⟨y7, hin⟩ := in14 (o := o) (u := some (bkD two)) (ro := ro) (tn := some (.int (n : Nat))) l b ps acc x7 (by omega) (by omega)
    obtain ⟨z6, z7, ih⟩ := out14 (o := o) (ro := ro) h2 hb ls (jin l b ps acc).1 (jin l b ps acc).2 (some (stD l)) y7 (pre_get (jin_pre l b ps acc) hp) (by omega) (by omega)
    have z1 := rwD_fzs two
    have z3 := pD_fzs ps
    have z6' := stDs_fz b
    have f6 := frzs_of z6'
    have ix := pix hp
    have hs : s_14_2 (le o (some (bkD two)) ps ro (some (.int (n : Nat))) acc (some (stD l)) x7) = .nx (le o (some (bkD two)) (jin l b ps acc).1 ro (some (.int (n : Nat))) (jin l b ps acc).2 (some (stD l)) y7) := by
      unfold s_14_2
      simp [z1, z3, ix, at1, hb, f6, hin]
    refine ⟨z6, z7, ?_⟩
    simp only [List.map_cons, forL, put_v, List.set_cons_succ, List.set_cons_zero]
    rw [hs]
    exact ih
end LW

namespace LW
open PySem PySem.Spec L2 EV
abbrev lt (o u : Option D) (ps : Prs) (rs : List (List JS)) (x4 x5 x6 x7 : Option D) : DEnv := [o, u, some (.lst true (ps.map pD)), some (.lst true (rs.map jrD)), x4, x5, x6, x7]
theorem s143_ok {one two : List (List Stp)} {r1 r2 s1 s2 : Nat} (h1 : Bk one r1 s1) (h2 : Bk two r2 s2) {ps : Prs} {rs : List (List JS)} (hp : Pok r1 r2 ps) (hn : rs.length < ps.length) (x5 x6 x7 : Option D) :
    ∃ x5' x6' x7', s_14_3 (lt (some (bkD one)) (some (bkD two)) ps rs (some (.int (rs.length : Nat))) x5 x6 x7) = .nx (lt (some (bkD one)) (some (bkD two)) (jrw one two ps rs.length).1 (rs ++ [(jrw one two ps rs.length).2]) (some (.int (rs.length : Nat))) x5' x6' x7') := by
  have hm : ps[rs.length] ∈ ps := List.getElem_mem hn
  have hlt := hp.lt _ hm
  obtain ⟨a, ha0, ha, ha1, ha2, ha3⟩ := bk_get h1 hlt.1
  obtain ⟨b, hb0, hb, hb1, hb2, hb3⟩ := bk_get h2 hlt.2
  have hps := hp.len
  have hb16 : r1 * r2 ≤ 16 := Nat.le_trans (Nat.mul_le_mul h1.ro1 h2.ro1) (by decide)
  have hs16 : s1 * s2 ≤ 16 := Nat.le_trans (Nat.mul_le_mul h1.si1 h2.si1) (by decide)
  have hs4 := h2.si1
  have ej : jrw one two ps rs.length = jout b a ps [] := by
    unfold jrw
    have : ps.getD rs.length (0, 0) = ps[rs.length] := by simp [hn]
    rw [this, ha, hb]
  have hp0 : ps[rs.length]? = some ps[rs.length] := List.getElem?_eq_getElem hn
  obtain ⟨y6, y7, hj⟩ := out14 (o := some (bkD one)) (ro := some (.lst true (rs.map jrD))) h2 hb3 a ps [] x6 x7 hp0 (by rw [ha1, hb1]; omega) (by rw [ha1, hb1]; simp; omega)
  have z1 := rwD_fzs one
  have z3 := pD_fzs ps
  have f5 := frzs_of (stDs_fz a)
  have z7 := jsDs_fz (jout b a ps []).2
  have hl : rs.length < 1000000 := by omega
  have ix := pix hp0
  have hge : ¬ (ps.length ≤ rs.length) := by omega
  refine ⟨some (.lst true ((jout b a ps []).2.map jsD)), y6, y7, ?_⟩
  rw [ej]
  have hj : forL (.v 6) s_14_2 (a.map stD) [some (bkD one), some (bkD two), some (.lst true (ps.map pD)), some (.lst true (rs.map jrD)), some (.int (rs.length : Nat)), some (.lst true []), x6, x7] = _ := hj
  unfold s_14_3
  simp [z1, z3, ix, at0, ha3, f5, hge, hj, z7, tupleD, hl]
theorem lawj_ok {one two : List (List Stp)} {r1 r2 s1 s2 : Nat} (h1 : Bk one r1 s1) (h2 : Bk two r2 s2) :
    c_14 [bkD one, bkD two] = .ok (.tup [.tup ((jrun one two (r1 * r2) [(0, 0)] []).2.map jrD), .lst false ((jrun one two (r1 * r2) [(0, 0)] []).1.map pD)]) [] := by
  have hb16 : r1 * r2 ≤ 16 := Nat.le_trans (Nat.mul_le_mul h1.ro1 h2.ro1) (by decide)
  have H : ∃ x4 x5 x6 x7, forL (.v 4) s_14_3 (rangeD 0 ((r1 : Int) * (r2 : Int))) (lt (some (bkD one)) (some (bkD two)) [(0, 0)] [] none none none none) = .nx (lt (some (bkD one)) (some (bkD two)) (jrun one two (r1 * r2) [(0, 0)] []).1 (jrun one two (r1 * r2) [(0, 0)] []).2 x4 x5 x6 x7) := by
    have e0 : ((r1 : Int) * (r2 : Int) - 0).toNat = r1 * r2 := by
      have : (r1 : Int) * (r2 : Int) = ((r1 * r2 : Nat) : Int) := by simp
      rw [this]; omega
    refine forL_rule (tg := .v 4) (m := s_14_3) (fun r => ∃ x4 x5 x6 x7, r = .nx (lt (some (bkD one)) (some (bkD two)) (jrun one two (r1 * r2) [(0, 0)] []).1 (jrun one two (r1 * r2) [(0, 0)] []).2 x4 x5 x6 x7)) (ds := rangeD 0 ((r1 : Int) * (r2 : Int)))
      (fun k e => ∃ ps rs x4 x5 x6 x7, rs.length = k ∧ Pok r1 r2 ps ∧ rs.length ≤ ps.length ∧ jrun one two (r1 * r2 - k) ps rs = jrun one two (r1 * r2) [(0, 0)] [] ∧ e = lt (some (bkD one)) (some (bkD two)) ps rs x4 x5 x6 x7)
      ⟨[(0, 0)], [], none, none, none, none, rfl, ⟨by simp, fun p hp => by rw [List.mem_singleton.mp hp]; exact ⟨h1.ro0, h2.ro0⟩⟩, by simp, rfl, rfl⟩ ?_ ?_
    · rintro k d e hk ⟨ps, rs, x4, x5, x6, x7, rfl, hp, hle, hr, rfl⟩
      have hk2 := (rg_get hk).2
      have hd' := (rg_get hk).1
      subst hd'
      clear hk
      rw [e0] at hk2
      have z3 := pD_fzs ps
      simp only [put_v, stO_some, Int.zero_add, List.set_cons_succ, List.set_cons_zero]
      by_cases hn : rs.length < ps.length
      · obtain ⟨y5, y6, y7, h3⟩ := s143_ok h1 h2 hp hn x5 x6 x7
        rw [h3]
        have hpj := jrw_pok h1 h2 hp hn
        have hpre := (jrw_pre one two ps rs.length).length_le
        refine ⟨_, _, _, y5, y6, y7, by simp, hpj, by simp; omega, ?_, rfl⟩
        rw [← hr]
        have : r1 * r2 - rs.length = (r1 * r2 - (rs.length + 1)) + 1 := by omega
        rw [this]
        conv => rhs; unfold jrun
        rw [if_pos hn]
      · have hge : ps.length ≤ rs.length := by omega
        have hs : s_14_3 (lt (some (bkD one)) (some (bkD two)) ps rs (some (.int (rs.length : Nat))) x5 x6 x7) = .bk (lt (some (bkD one)) (some (bkD two)) ps rs (some (.int (rs.length : Nat))) x5 x6 x7) := by
          unfold s_14_3
          simp [z3, hge]
        rw [hs]
        have e : jrun one two (r1 * r2 - rs.length) ps rs = (ps, rs) := by
          generalize r1 * r2 - rs.length = μ
          cases μ with
          | zero => rfl
          | succ μ => unfold jrun; rw [if_neg hn]
        rw [stP_bk, ← hr, e]
        exact ⟨_, _, _, _, rfl⟩
    · rintro e ⟨ps, rs, x4, x5, x6, x7, hk, hp, hle, hr, rfl⟩
      have hr := hr
      rw [rg_len, e0] at hr
      rw [Nat.sub_self] at hr
      have hr : (ps, rs) = _ := hr
      rw [← hr]
      exact ⟨x4, x5, x6, x7, rfl⟩
  obtain ⟨x4, x5, x6, x7, H⟩ := H
  have z1 := rwD_fzs one
  have z2 := rwD_fzs two
  have z4 := jrD_fzs (jrun one two (r1 * r2) [(0, 0)] []).2
  have z5 := pD_fzs (jrun one two (r1 * r2) [(0, 0)] []).1
  have f5 := frzs_of z5
  have hl1 : one.length = r1 := h1.len
  have hl2 : two.length = r2 := h2.len
  have hmul : mulOk (r1 : Int) (r2 : Int) = true := mulOk_r (Nat.ble_eq_true_of_le (by have := h2.ro1; omega))
  have rg : rngOk ((r1 : Int) * (r2 : Int)) = true := by
    have : (r1 : Int) * (r2 : Int) = ((r1 * r2 : Nat) : Int) := by simp
    rw [this]
    exact rngOk_s (by omega) (by omega)
  have H : forL (.v 4) s_14_3 (rangeD 0 ((r1 : Int) * (r2 : Int))) [some (bkD one), some (bkD two), some (.lst true [.tup [.int 0, .int 0]]), some (.lst true []), none, none, none, none] = _ := H
  unfold c_14 callF m_14
  simp [z1, z2, hl1, hl2, mul_int hmul, rg, H, z4, z5, f5, tupleD]
end LW

namespace LW
open PySem PySem.Spec L2 EV
/-- an entry of the joint book, the pairs numbered by qs -/
def jent (qs : Prs) : Stp → Stp → JS
  | some (t1, w1, r1), some (t2, w2, r2) => if t1 = t2 then some (t1, (w1, w2), qs.idxOf (r1, r2)) else none
  | _, _ => none
/-- all pairs that the entries name stand in qs -/
def named (qs : Prs) : Stp → Stp → Prop
  | some (t1, _, r1), some (t2, _, r2) => t1 = t2 → (r1, r2) ∈ qs
  | _, _ => True
theorem idx_pre {ps qs : Prs} (h : ps <+: qs) {p : Nat × Nat} (hp : p ∈ ps) : qs.idxOf p = ps.idxOf p := by
  obtain ⟨t, rfl⟩ := h
  rw [List.idxOf_append, if_pos hp]
theorem jst_ent {ps qs : Prs} {l r : Stp} (h : (jst ps l r).1 <+: qs) : (jst ps l r).2 = jent qs l r ∧ named qs l r := by
  cases l with
  | none => exact ⟨by rw [jst_none_l]; cases r <;> rfl, by cases r <;> trivial⟩
  | some x =>
    obtain ⟨t1, w1, r1⟩ := x
    cases r with
    | none => exact ⟨by rw [jst_none_r]; rfl, trivial⟩
    | some y =>
      obtain ⟨t2, w2, r2⟩ := y
      by_cases ht : t1 = t2
      · subst ht
        by_cases hm : (r1, r2) ∈ ps
        · have e : jst ps (some (t1, w1, r1)) (some (t1, w2, r2)) = (ps, some (t1, (w1, w2), ps.idxOf (r1, r2))) := by simp [jst, hm]
          rw [e] at h ⊢
          have h : ps <+: qs := h
          exact ⟨by simp [jent, idx_pre h hm], fun _ => h.subset hm⟩
        · have e : jst ps (some (t1, w1, r1)) (some (t1, w2, r2)) = (ps ++ [(r1, r2)], some (t1, (w1, w2), (ps ++ [(r1, r2)]).idxOf (r1, r2))) := by simp [jst, hm]
          rw [e] at h ⊢
          have h : ps ++ [(r1, r2)] <+: qs := h
          have hm2 : (r1, r2) ∈ ps ++ [(r1, r2)] := by simp
          exact ⟨by simp only [jent, if_true]; rw [idx_pre h hm2], fun _ => h.subset hm2⟩
      · exact ⟨by simp [jst, jent, ht], fun e => absurd e ht⟩
theorem jin_ent {qs : Prs} (l : Stp) : ∀ (rs : List Stp) (ps : Prs) (acc : List JS), (jin l rs ps acc).1 <+: qs → (jin l rs ps acc).2 = acc ++ rs.map (jent qs l) ∧ ∀ r ∈ rs, named qs l r
  | [], ps, acc, _ => ⟨by simp [jin], fun r hr => nomatch hr⟩
  | r :: rs, ps, acc, h => by
    have h : (jin l rs (jst ps l r).1 (acc ++ [(jst ps l r).2])).1 <+: qs := h
    obtain ⟨h1, h2⟩ := jin_ent l rs _ _ h
    obtain ⟨h3, h4⟩ := jst_ent ((jin_pre l rs _ (acc ++ [(jst ps l r).2])).trans h)
    refine ⟨?_, fun x hx => ?_⟩
    · show (jin l rs (jst ps l r).1 (acc ++ [(jst ps l r).2])).2 = _
      rw [h1, h3]; simp
    · rcases List.mem_cons.mp hx with rfl | hx
      · exact h4
      · exact h2 x hx
theorem jout_ent {qs : Prs} (rs : List Stp) : ∀ (ls : List Stp) (ps : Prs) (acc : List JS), (jout rs ls ps acc).1 <+: qs → (jout rs ls ps acc).2 = acc ++ (ls.map fun l => rs.map (jent qs l)).flatten ∧ ∀ l ∈ ls, ∀ r ∈ rs, named qs l r
  | [], ps, acc, _ => ⟨by simp [jout], fun r hr => nomatch hr⟩
  | l :: ls, ps, acc, h => by
    have h : (jout rs ls (jin l rs ps acc).1 (jin l rs ps acc).2).1 <+: qs := h
    obtain ⟨h1, h2⟩ := jout_ent rs ls _ _ h
    obtain ⟨h3, h4⟩ := jin_ent l rs ps acc ((jout_pre rs ls _ (jin l rs ps acc).2).trans h)
    refine ⟨?_, fun x hx => ?_⟩
    · show (jout rs ls (jin l rs ps acc).1 (jin l rs ps acc).2).2 = _
      rw [h1, h3]; simp
    · rcases List.mem_cons.mp hx with rfl | hx
      · exact h4
      · exact h2 x hx
end LW

namespace LW
open PySem PySem.Spec L2 EV
/-- the joint row of a pair of rooms, numbered by qs -/
def jrow (one two : List (List Stp)) (qs : Prs) (p : Nat × Nat) : List JS := ((one.getD p.1 []).map fun l => (two.getD p.2 []).map (jent qs l)).flatten
theorem jrw_ent {one two : List (List Stp)} {ps qs : Prs} {n : Nat} (hn : n < ps.length) (h : (jrw one two ps n).1 <+: qs) : (jrw one two ps n).2 = jrow one two qs ps[n] ∧ ∀ l ∈ one.getD ps[n].1 [], ∀ r ∈ two.getD ps[n].2 [], named qs l r := by
  have hj : jrw one two ps n = jout (two.getD ps[n].2 []) (one.getD ps[n].1 []) ps [] := by
    unfold jrw
    have : ps.getD n (0, 0) = ps[n] := by simp [hn]
    rw [this]
  rw [hj] at h ⊢
  obtain ⟨g7, g8⟩ := jout_ent _ _ ps [] h
  exact ⟨by rw [g7]; rfl, g8⟩
theorem jrun_ent {one two : List (List Stp)} {r1 r2 s1 s2 : Nat} (h1 : Bk one r1 s1) (h2 : Bk two r2 s2) : ∀ (k : Nat) (ps : Prs) (rs : List (List JS)), Pok r1 r2 ps → rs.length ≤ ps.length → r1 * r2 ≤ k + rs.length →
    Pok r1 r2 (jrun one two k ps rs).1 ∧ ps <+: (jrun one two k ps rs).1 ∧ (jrun one two k ps rs).2.length = (jrun one two k ps rs).1.length ∧ rs <+: (jrun one two k ps rs).2 ∧
    ∀ n p, rs.length ≤ n → (jrun one two k ps rs).1[n]? = some p → (jrun one two k ps rs).2[n]? = some (jrow one two (jrun one two k ps rs).1 p) ∧ ∀ l ∈ one.getD p.1 [], ∀ r ∈ two.getD p.2 [], named (jrun one two k ps rs).1 l r
  | 0, ps, rs, hp, hle, hk => by
    have := hp.len
    have e : jrun one two 0 ps rs = (ps, rs) := rfl
    rw [e]
    refine ⟨hp, List.prefix_refl _, by dsimp only; omega, List.prefix_refl _, fun n p hn hq => ?_⟩
    have := (List.getElem?_eq_some_iff.mp hq).1
    dsimp only at this
    omega
  | k + 1, ps, rs, hp, hle, hk => by
    by_cases hn : rs.length < ps.length
    · have e : jrun one two (k + 1) ps rs = jrun one two k (jrw one two ps rs.length).1 (rs ++ [(jrw one two ps rs.length).2]) := by
        conv => lhs; unfold jrun
        rw [if_pos hn]
      rw [e]
      have hpj := jrw_pok h1 h2 hp hn
      have hpre := jrw_pre one two ps rs.length
      have hl := hpre.length_le
      obtain ⟨g1, g2, g3, g4, g5⟩ := jrun_ent h1 h2 k (jrw one two ps rs.length).1 (rs ++ [(jrw one two ps rs.length).2]) hpj (by simp; omega) (by simp; omega)
      refine ⟨g1, hpre.trans g2, g3, (List.prefix_append _ _).trans g4, fun n p hnn hq => ?_⟩
      by_cases hz : rs.length < n
      · exact g5 n p (by simp; omega) hq
      · have hz : n = rs.length := by omega
        subst hz
        have hps : ps[rs.length]? = some ps[rs.length] := List.getElem?_eq_getElem hn
        have hq2 := pre_get (hpre.trans g2) hps
        rw [hq2] at hq
        injection hq with hq
        subst hq
        obtain ⟨g7, g8⟩ := jrw_ent (one := one) (two := two) hn g2
        refine ⟨?_, g8⟩
        obtain ⟨t, ht⟩ := g4
        rw [← ht, List.append_assoc, List.getElem?_append_right (Nat.le_refl _), Nat.sub_self]
        exact congrArg some g7
    · have e : jrun one two (k + 1) ps rs = (ps, rs) := by
        conv => lhs; unfold jrun
        rw [if_neg hn]
      rw [e]
      refine ⟨hp, List.prefix_refl _, by dsimp only; omega, List.prefix_refl _, fun n p hnn hq => ?_⟩
      have := (List.getElem?_eq_some_iff.mp hq).1
      dsimp only at this
      omega
end LW

namespace LW
open PySem PySem.Spec L2 EV
/-- where a row of signs leads in a joint book -/
def rr (B : List (List JS)) : Nat → List Nat → Option Nat
  | room, [] => some room
  | room, s :: row => match (B.getD room []).getD s none with
    | none => none
    | some (_, _, k) => rr B k row
def rrD : Option Nat → D
  | none => .non
  | some k => .int (k : Nat)
/-- each step leads into the book -/
abbrev Cl (B : List (List JS)) : Prop := ∀ row ∈ B, ∀ t w k, some (t, w, k) ∈ row → k < B.length
abbrev jbD (B : List (List JS)) : D := .tup (B.map jrD)
theorem jb_get {B : List (List JS)} {n : Nat} (h : n < B.length) : atI (B.map jrD) (n : Int) = some (jrD (B.getD n [])) := by
  rw [atI_map' jrD B n h]; simp [h]
theorem stepat_ok {B : List (List JS)} {n s : Nat} (h : n < B.length) : c_1 [jbD B, .int (n : Nat), .int (s : Nat)] = .ok (jsD ((B.getD n []).getD s none)) [] := by
  have z1 := jrD_fzs B
  have ix := jb_get h
  have z2 := jsDs_fz (B.getD n [])
  have f2 := frzs_of z2
  by_cases hs : s < (B.getD n []).length
  · have ix2 : atI ((B.getD n []).map jsD) (s : Int) = some (jsD ((B.getD n []).getD s none)) := by
      rw [atI_map' jsD _ s hs]
      have e : (B.getD n []).getD s none = (B.getD n [])[s] := by
        rw [List.getD_eq_getElem?_getD, List.getElem?_eq_getElem hs]; rfl
      rw [e]
    have z3 := jsD_fz ((B.getD n []).getD s none)
    have f3 := frz_of _ z3
    unfold c_1 callF m_1
    simp only [jbD] at *
    simp [-List.getD_eq_getElem?_getD, z1, ix, f2, hs, ix2]
  · have e : (B.getD n []).getD s none = none := by
      rw [List.getD_eq_getElem?_getD, List.getElem?_eq_none (by omega)]; rfl
    rw [e]
    unfold c_1 callF m_1
    simp [-List.getD_eq_getElem?_getD, z1, ix, f2, hs, jsD]
theorem nat_row (row : List Nat) : fzs (row.map fun n => D.int (n : Nat)) = true := fzs_of fun d hd => by
  obtain ⟨s, _, rfl⟩ := List.mem_map.mp hd
  rfl
theorem rowroom_ok {B : List (List JS)} (hc : Cl B) (h0 : 0 < B.length) (row : List Nat) : c_2 [jbD B, .tup (row.map fun n => .int (n : Nat))] = .ok (rrD (rr B 0 row)) [] := by
  have z1 := jrD_fzs B
  have zr := nat_row row
  have fr := frzs_of zr
  have loop : ∀ (rw1 : List Nat) (cur : Nat) (x3 x4 : Option D), cur < B.length → ∃ e, e.length = 5 ∧ (forL (.v 3) s_2_1 (rw1.map fun n => .int (n : Nat)) [some (jbD B), some (.tup (row.map fun n => .int (n : Nat))), some (.int (cur : Nat)), x3, x4] = match rr B cur rw1 with
      | none => .rt .non e
      | some k => .nx [some (jbD B), some (.tup (row.map fun n => .int (n : Nat))), some (.int (k : Nat)), e.getD 3 none, e.getD 4 none]) := by
    intro rw1
    induction rw1 with
    | nil => intro cur x3 x4 hcur; exact ⟨[none, none, none, x3, x4], rfl, by simp [forL, rr]⟩
    | cons s rw1 ih =>
      intro cur x3 x4 hcur
      have hst := stepat_ok (s := s) hcur
      simp only [List.map_cons, forL, put_v, List.set_cons_succ, List.set_cons_zero]
      cases hv : (B.getD cur []).getD s none with
      | none =>
        rw [hv] at hst
        have hs : s_2_1 [some (jbD B), some (.tup (row.map fun n => .int (n : Nat))), some (.int (cur : Nat)), some (.int (s : Nat)), x4] = .rt .non [some (jbD B), some (.tup (row.map fun n => .int (n : Nat))), some (.int (cur : Nat)), some (.int (s : Nat)), some .non] := by
          unfold s_2_1
          simp [z1, hst, jsD]
        rw [hs]
        refine ⟨[some (jbD B), some (.tup (row.map fun n => .int (n : Nat))), some (.int (cur : Nat)), some (.int (s : Nat)), some .non], rfl, ?_⟩
        unfold rr
        rw [hv]
      | some x =>
        obtain ⟨t, w, k⟩ := x
        rw [hv] at hst
        have hk : k < B.length := by
          have hm : B.getD cur [] ∈ B := by
            have : B.getD cur [] = B[cur] := by simp [hcur]
            rw [this]; exact List.getElem_mem hcur
          refine hc _ hm t w k ?_
          rw [List.getD_eq_getElem?_getD] at hv
          cases hg : (B.getD cur [])[s]? with
          | none => rw [hg] at hv; cases hv
          | some y => rw [hg] at hv; have hv : y = some (t, w, k) := hv; subst hv; exact List.mem_of_getElem? hg
        have hs : s_2_1 [some (jbD B), some (.tup (row.map fun n => .int (n : Nat))), some (.int (cur : Nat)), some (.int (s : Nat)), x4] = .nx [some (jbD B), some (.tup (row.map fun n => .int (n : Nat))), some (.int (k : Nat)), some (.int (s : Nat)), some (jsD (some (t, w, k)))] := by
          unfold s_2_1
          simp [z1, hst, jsD, at2]
        rw [hs]
        obtain ⟨e, he, h⟩ := ih k (some (.int (s : Nat))) (some (jsD (some (t, w, k)))) hk
        refine ⟨e, he, ?_⟩
        simp only
        rw [h]
        conv => rhs; unfold rr
        rw [hv]
  obtain ⟨e, he, h⟩ := loop row 0 none none h0
  have h : forL (.v 3) s_2_1 (row.map fun n => .int (n : Nat)) [some (jbD B), some (.tup (row.map fun n => .int (n : Nat))), some (.int 0), none, none] = _ := h
  cases hr : rr B 0 row with
  | none =>
    rw [hr] at h
    unfold c_2 callF m_2
    simp [z1, zr, fr, h, rrD]
  | some k =>
    rw [hr] at h
    unfold c_2 callF m_2
    simp [z1, zr, fr, h, rrD]
end LW

namespace LW
open PySem PySem.Spec L2 EV
theorem flat_get {α β γ : Type} (f : α → β → γ) (rs : List β) : ∀ (ls : List α) (x y : Nat) (l : α) (r : β), ls[x]? = some l → rs[y]? = some r → (ls.map fun l => rs.map (f l)).flatten[x * rs.length + y]? = some (f l r)
  | [], x, y, l, r, h, _ => by cases h
  | a :: ls, 0, y, l, r, h, hy => by
    injection h with h; subst h
    obtain ⟨h1, h2⟩ := List.getElem?_eq_some_iff.mp hy
    rw [List.map_cons, List.flatten_cons, Nat.zero_mul, Nat.zero_add, List.getElem?_append_left (by simpa using h1), List.getElem?_map, hy]
    rfl
  | a :: ls, x + 1, y, l, r, h, hy => by
    have ih := flat_get f rs ls x y l r h hy
    have e : (x + 1) * rs.length + y = (rs.map (f a)).length + (x * rs.length + y) := by
      rw [List.length_map, Nat.add_mul, Nat.one_mul]; omega
    rw [List.map_cons, List.flatten_cons, e, List.getElem?_append_right (Nat.le_add_right _ _), Nat.add_sub_cancel_left]
    exact ih
theorem rr_snoc (B : List (List JS)) : ∀ (row : List Nat) (room s : Nat), rr B room (row ++ [s]) = match rr B room row with
    | none => none
    | some k => rr B k [s]
  | [], room, s => rfl
  | a :: row, room, s => by
    show rr B room (a :: (row ++ [s])) = _
    unfold rr
    cases (B.getD room []).getD a none with
    | none => rfl
    | some x => obtain ⟨t, w, k⟩ := x; exact rr_snoc B row k s
/-- a finished joint book -/
structure Jb (one two : List (List Stp)) (PS : Prs) (B : List (List JS)) (r1 r2 s1 s2 : Nat) : Prop where
  h1 : Bk one r1 s1
  h2 : Bk two r2 s2
  pok : Pok r1 r2 PS
  z : (0, 0) ∈ PS
  z0 : PS.idxOf (0, 0) = 0
  len : B.length = PS.length
  row : ∀ (n : Nat) (p : Nat × Nat), PS[n]? = some p → B[n]? = some (jrow one two PS p) ∧ ∀ l ∈ one.getD p.1 [], ∀ r ∈ two.getD p.2 [], named PS l r
theorem jb_of {one two : List (List Stp)} {r1 r2 s1 s2 : Nat} (h1 : Bk one r1 s1) (h2 : Bk two r2 s2) : Jb one two (jrun one two (r1 * r2) [(0, 0)] []).1 (jrun one two (r1 * r2) [(0, 0)] []).2 r1 r2 s1 s2 := by
  have hp : Pok r1 r2 [(0, 0)] := ⟨by simp, fun p hp => by rw [List.mem_singleton.mp hp]; exact ⟨h1.ro0, h2.ro0⟩⟩
  obtain ⟨g1, g2, g3, g4, g5⟩ := jrun_ent h1 h2 (r1 * r2) [(0, 0)] [] hp (by simp) (by simp)
  refine ⟨h1, h2, g1, g2.subset (by simp), ?_, g3, fun n p hq => g5 n p (Nat.zero_le _) hq⟩
  rw [idx_pre g2 (by simp)]
  rfl
theorem jent_mem {qs : Prs} {l r : Stp} {t : Int} {w : Int × Int} {k : Nat} (h : jent qs l r = some (t, w, k)) (hn : named qs l r) : k < qs.length := by
  cases l with
  | none => cases h
  | some x =>
    obtain ⟨t1, w1, r1⟩ := x
    cases r with
    | none => cases h
    | some y =>
      obtain ⟨t2, w2, r2⟩ := y
      by_cases ht : t1 = t2
      · have hm := hn ht
        simp [jent, ht] at h
        rw [← h.2.2]
        exact List.idxOf_lt_length_iff.mpr hm
      · simp [jent, ht] at h
theorem Jb.cl {one two : List (List Stp)} {PS : Prs} {B : List (List JS)} {r1 r2 s1 s2 : Nat} (J : Jb one two PS B r1 r2 s1 s2) : Cl B := by
  intro row hr t w k hk
  obtain ⟨n, hn, rfl⟩ := List.getElem_of_mem hr
  have hn' : n < PS.length := by rw [← J.len]; exact hn
  have hp : PS[n]? = some PS[n] := List.getElem?_eq_getElem hn'
  obtain ⟨g1, g2⟩ := J.row n _ hp
  rw [List.getElem?_eq_getElem hn] at g1
  injection g1 with g1
  rw [g1] at hk
  unfold jrow at hk
  obtain ⟨q, hq1, hq2⟩ := List.mem_flatten.mp hk
  obtain ⟨l, hl, rfl⟩ := List.mem_map.mp hq1
  obtain ⟨r, hr2, he⟩ := List.mem_map.mp hq2
  rw [J.len]
  exact jent_mem he (g2 l hl r hr2)
end LW

namespace LW
open PySem PySem.Spec L2 EV
abbrev rowD (R : List Nat) : D := .tup (R.map fun n => .int (n : Nat))
/-- row_right's frame -/
abbrev re (a b : Int) (one two : List (List Stp)) (PS : Prs) (B : List (List JS)) (p : Nat × Nat) (s2 : Nat) (R : List Nat) (x8 x9 x10 x11 x12 : Option D) : DEnv :=
  [some (bx a b), some (bkD one), some (bkD two), some (jbD B), some (.lst false (PS.map pD)), some (pD p), some (.int (s2 : Nat)), some (rowD R), x8, x9, x10, x11, x12]
@[simp] theorem ad_tup {xs ys : List D} : addD (.tup xs) (.tup ys) = if xs.length + ys.length ≤ LIM then some (.tup (xs ++ ys)) else none := rfl
theorem right_step {one two : List (List Stp)} {PS : Prs} {B : List (List JS)} {r1 r2 s1 s2 : Nat} (J : Jb one two PS B r1 r2 s1 s2) {p : Nat × Nat} {R : List Nat} (hp : p ∈ PS) (hR : rr B 0 R = some (PS.idxOf p)) (hl : R.length < 100) (a b : Int) (x8 x9 x10 x11 x12 : Option D) :
    (∃ e, s_15_1 (re a b one two PS B p s2 R x8 x9 x10 x11 x12) = .rt (.bl true) e ∧ ∃ a' b', fins mask_15 e = some [bx a' b']) ∨
    ∃ a' b' p' R' y9 y10 y11 y12, s_15_1 (re a b one two PS B p s2 R x8 x9 x10 x11 x12) = .nx (re a' b' one two PS B p' s2 R' x8 y9 y10 y11 y12) ∧ p' ∈ PS ∧ rr B 0 R' = some (PS.idxOf p') ∧ R'.length = R.length + 1 := by
  have hlt := J.pok.lt p hp
  obtain ⟨la, hla0, hla, hla1, hla2, hla3⟩ := bk_get J.h1 hlt.1
  obtain ⟨lb, hlb0, hlb, hlb1, hlb2, hlb3⟩ := bk_get J.h2 hlt.2
  obtain ⟨f0, hf00, hf0, hf1, hf2, hf3⟩ := bk_get J.h1 J.h1.ro0
  obtain ⟨x, a1, b1, hx0, hx1, hx⟩ := take_ok a b s1 (by have := J.h1.si0; omega) (by have := J.h1.si1; omega)
  obtain ⟨y, a2, b2, hy0, hy1, hy⟩ := take_ok a1 b1 s2 (by have := J.h2.si0; omega) (by have := J.h2.si1; omega)
  have hxn : x.toNat < la.length := by omega
  have hyn : y.toNat < lb.length := by omega
  have ix1 : atI (la.map stD) x = some (stD la[x.toNat]) := by
    have := atI_map' stD la x.toNat hxn
    rwa [Int.toNat_of_nonneg hx0] at this
  have ix2 : atI (lb.map stD) y = some (stD lb[y.toNat]) := by
    have := atI_map' stD lb y.toNat hyn
    rwa [Int.toNat_of_nonneg hy0] at this
  have hi : PS.idxOf p < PS.length := List.idxOf_lt_length_iff.mpr hp
  have hpi : PS[PS.idxOf p]? = some p := by
    rw [List.getElem?_eq_getElem hi, List.getElem_idxOf]
  obtain ⟨hrow, hnm⟩ := J.row _ _ hpi
  have hBget : B.getD (PS.idxOf p) [] = jrow one two PS p := by
    rw [List.getD_eq_getElem?_getD, hrow]; rfl
  have hent : (jrow one two PS p).getD (x.toNat * s2 + y.toNat) none = jent PS la[x.toNat] lb[y.toNat] := by
    unfold jrow
    rw [hla, hlb, List.getD_eq_getElem?_getD]
    have := flat_get (jent PS) lb la x.toNat y.toNat _ _ (List.getElem?_eq_getElem hxn) (List.getElem?_eq_getElem hyn)
    rw [hlb1] at this
    rw [this]; rfl
  have hname : named PS la[x.toNat] lb[y.toNat] := by
    rw [hla, hlb] at hnm
    exact hnm _ (List.getElem_mem hxn) _ (List.getElem_mem hyn)
  have hrr : rr B 0 (R ++ [x.toNat * s2 + y.toNat]) = match jent PS la[x.toNat] lb[y.toNat] with
      | none => none
      | some (_, _, k) => some k := by
    rw [rr_snoc, hR]
    show rr B (PS.idxOf p) [x.toNat * s2 + y.toNat] = _
    unfold rr
    rw [hBget, hent]
    cases jent PS la[x.toNat] lb[y.toNat] with
    | none => rfl
    | some q => obtain ⟨t, w, k⟩ := q; rfl
  have hB0 : 0 < B.length := by rw [J.len]; omega
  have hroom := rowroom_ok J.cl hB0 (R ++ [x.toNat * s2 + y.toNat])
  rw [hrr] at hroom
  have hsg : x * (s2 : Int) + y = ((x.toNat * s2 + y.toNat : Nat) : Int) := by
    have h1 : ((x.toNat : Nat) : Int) = x := Int.toNat_of_nonneg hx0
    have h2 : ((y.toNat : Nat) : Int) = y := Int.toNat_of_nonneg hy0
    rw [Int.natCast_add, Int.natCast_mul, h1, h2]
  have hmul : mulOk x (s2 : Int) = true := mulOk_r (Nat.ble_eq_true_of_le (by have := J.h2.si1; omega))
  have z1 := rwD_fzs one
  have z2 := rwD_fzs two
  have z3 := jrD_fzs B
  have z4 := pD_fzs PS
  have zr := nat_row (R ++ [x.toNat * s2 + y.toNat])
  have zr0 := nat_row R
  have zl := stD_fz la[x.toNat]
  have zm := stD_fz lb[y.toNat]
  have hll : (R.map fun n => D.int (n : Nat)).length ≤ 999999 := by rw [List.length_map]; omega
  have hf1' : (f0.map stD).length = s1 := by simpa using hf1
  have hf3' : atI (one.map rwD) 0 = some (rwD f0) := hf3
  have ff0 := frzs_of (stDs_fz f0)
  have fla := frzs_of (stDs_fz la)
  have flb := frzs_of (stDs_fz lb)
  have fl := frz_of _ zl
  have fm := frz_of _ zm
  generalize hL : la[x.toNat] = L at *
  generalize hM : lb[y.toNat] = M at *
  have hroom' : c_2 [jbD B, .tup ((R.map fun n => D.int (n : Nat)) ++ [.int ((x.toNat * s2 + y.toNat : Nat) : Int)])] = .ok (rrD (match jent PS L M with
      | none => none
      | some (_, _, k) => some k)) [] := by
    rw [← hroom]; simp
  generalize hsgn : x.toNat * s2 + y.toNat = sg at *
  have zr' : fzs ((R.map fun n => D.int (n : Nat)) ++ [.int ((sg : Nat) : Int)]) = true := by rw [← zr]; simp
  have none_case : ∀ (hj : jent PS L M = none), (∃ (hc : (L = none ∨ M = none) ∨ ∃ t1 w1 q1 t2 w2 q2, L = some (t1, w1, q1) ∧ M = some (t2, w2, q2) ∧ ¬ t1 = t2), True) →
      ∃ e, s_15_1 (re a b one two PS B p s2 R x8 x9 x10 x11 x12) = .rt (.bl true) e ∧ ∃ a' b', fins mask_15 e = some [bx a' b'] := by
    intro hj hc
    rw [hj] at hroom'
    refine ⟨re a2 b2 one two PS B p s2 (R ++ [sg]) x8 (some (.int x)) (some (.int y)) (some (stD L)) (some (stD M)), ?_, a2, b2, by simp⟩
    obtain ⟨hc, _⟩ := hc
    rcases hc with (hc | hc) | ⟨t1, w1, q1, t2, w2, q2, hc1, hc2, ht⟩
    · subst hc
      unfold s_15_1
      simp [-List.length_map, ff0, fla, flb, fl, fm, zl, zm, z1, z2, z3, z4, hf3', hf1', hx, hy, hla3, hlb3, ix1, ix2, hL, hM, at0, at1, stD, zr0, zr', hsg, mul_int hmul, hll, hroom', rrD]
    · subst hc
      have hLc : L = none ∨ ∃ t1 w1 q1, L = some (t1, w1, q1) := by
        cases L with
        | none => exact .inl rfl
        | some q => obtain ⟨t, w, k⟩ := q; exact .inr ⟨t, w, k, rfl⟩
      rcases hLc with hLc | ⟨t1, w1, q1, hLc⟩
      · subst hLc
        unfold s_15_1
        simp [-List.length_map, ff0, fla, flb, fl, fm, zl, zm, z1, z2, z3, z4, hf3', hf1', hx, hy, hla3, hlb3, ix1, ix2, hL, hM, at0, at1, stD, zr0, zr', hsg, mul_int hmul, hll, hroom', rrD]
      · subst hLc
        unfold s_15_1
        simp [-List.length_map, ff0, fla, flb, fl, fm, zl, zm, z1, z2, z3, z4, hf3', hf1', hx, hy, hla3, hlb3, ix1, ix2, hL, hM, at0, at1, stD, zr0, zr', hsg, mul_int hmul, hll, hroom', rrD]
    · subst hc1 hc2
      have hb : (t1 == t2) = false := by simpa using ht
      unfold s_15_1
      simp [-List.length_map, hb, ff0, fla, flb, fl, fm, zl, zm, z1, z2, z3, z4, hf3', hf1', hx, hy, hla3, hlb3, ix1, ix2, hL, hM, at0, at1, stD, zr0, zr', hsg, mul_int hmul, hll, hroom', rrD]
  have hLc : L = none ∨ ∃ t1 w1 q1, L = some (t1, w1, q1) := by
    cases L with
    | none => exact .inl rfl
    | some q => obtain ⟨t, w, k⟩ := q; exact .inr ⟨t, w, k, rfl⟩
  have hMc : M = none ∨ ∃ t1 w1 q1, M = some (t1, w1, q1) := by
    cases M with
    | none => exact .inl rfl
    | some q => obtain ⟨t, w, k⟩ := q; exact .inr ⟨t, w, k, rfl⟩
  rcases hLc with hLc | ⟨t1, w1, q1, hLc⟩
  · exact .inl (none_case (by rw [hLc]; cases M <;> rfl) ⟨.inl (.inl hLc), trivial⟩)
  · rcases hMc with hMc | ⟨t2, w2, q2, hMc⟩
    · exact .inl (none_case (by rw [hLc, hMc]; rfl) ⟨.inl (.inr hMc), trivial⟩)
    · by_cases ht : t1 = t2
      · right
        subst ht
        have hm : (q1, q2) ∈ PS := by
          rw [hLc, hMc] at hname
          exact hname rfl
        have hj : jent PS L M = some (t1, (w1, w2), PS.idxOf (q1, q2)) := by rw [hLc, hMc]; simp [jent]
        rw [hj] at hroom' hrr
        have gi := ix_ps false hm
        have gi' : indexD (.lst false (PS.map pD)) (.tup [.int (q1 : Int), .int (q2 : Int)]) = some (.int (PS.idxOf (q1, q2) : Nat)) := gi
        have gs := same_ok 39 (.int (PS.idxOf (q1, q2) : Nat)) rfl
        have hlen : (R ++ [sg]).length = R.length + 1 := by simp
        refine ⟨a2, b2, (q1, q2), R ++ [sg], some (.int x), some (.int y), some (stD L), some (stD M), ?_, hm, hrr, hlen⟩
        subst hLc hMc
        unfold s_15_1
        simp [-List.length_map, ff0, fla, flb, fl, fm, zl, zm, z1, z2, z3, z4, hf3', hf1', hx, hy, hla3, hlb3, ix1, ix2, hL, hM, at0, at1, at2, stD, zr0, zr', hsg, mul_int hmul, hll, hroom', rrD, gi', gs]
      · exact .inl (none_case (by rw [hLc, hMc]; simp [jent, ht]) ⟨.inr ⟨t1, w1, q1, t2, w2, q2, hLc, hMc, ht⟩, trivial⟩)
end LW

namespace LW
open PySem PySem.Spec L2 EV
theorem right_ok {one two : List (List Stp)} {PS : Prs} {B : List (List JS)} {r1 r2 s1 s2 : Nat} (J : Jb one two PS B r1 r2 s1 s2) (a b : Int) :
    ∃ a' b', c_15 [bx a b, bkD one, bkD two, jbD B, .lst false (PS.map pD)] = .ok (.bl true) [bx a' b'] := by
  obtain ⟨g0, hg00, hg0, hg1, hg2, hg3⟩ := bk_get J.h2 J.h2.ro0
  have z2 := rwD_fzs two
  have hg3' : atI (two.map rwD) 0 = some (rwD g0) := hg3
  have hg1' : (g0.map stD).length = s2 := by simpa using hg1
  have fg0 := frzs_of (stDs_fz g0)
  have H : (∃ e, forL (.v 8) s_15_1 (rangeD 0 8) (re a b one two PS B (0, 0) s2 [] none none none none none) = .rt (.bl true) e ∧ ∃ a' b', fins mask_15 e = some [bx a' b']) ∨
      ∃ a' b' p' R' y8 y9 y10 y11 y12, forL (.v 8) s_15_1 (rangeD 0 8) (re a b one two PS B (0, 0) s2 [] none none none none none) = .nx (re a' b' one two PS B p' s2 R' y8 y9 y10 y11 y12) := by
    refine forL_rule (tg := .v 8) (m := s_15_1) (fun r => (∃ e, r = .rt (.bl true) e ∧ ∃ a' b', fins mask_15 e = some [bx a' b']) ∨ ∃ a' b' p' R' y8 y9 y10 y11 y12, r = .nx (re a' b' one two PS B p' s2 R' y8 y9 y10 y11 y12)) (ds := rangeD 0 8)
      (fun k e => ∃ a b p R y8 y9 y10 y11 y12, R.length = k ∧ p ∈ PS ∧ rr B 0 R = some (PS.idxOf p) ∧ e = re a b one two PS B p s2 R y8 y9 y10 y11 y12)
      ⟨a, b, (0, 0), [], none, none, none, none, none, rfl, J.z, by rw [J.z0]; rfl, rfl⟩ ?_ ?_
    · rintro k d e hk ⟨a1, b1, p, R, y8, y9, y10, y11, y12, hl, hp, hR, rfl⟩
      have hk2 := (rg_get hk).2
      have hd' := (rg_get hk).1
      subst hd'
      clear hk
      simp only [put_v, stO_some, Int.zero_add, List.set_cons_succ, List.set_cons_zero]
      rcases right_step J hp hR (by omega) a1 b1 (some (.int (k : Nat))) y9 y10 y11 y12 with ⟨e, h1, h2⟩ | ⟨a2, b2, p', R', z9, z10, z11, z12, h1, h2, h3, h4⟩
      · rw [h1]
        exact .inl ⟨e, rfl, h2⟩
      · rw [h1]
        exact ⟨a2, b2, p', R', _, z9, z10, z11, z12, by rw [h4, hl], h2, h3, rfl⟩
    · rintro e ⟨a1, b1, p, R, y8, y9, y10, y11, y12, hl, hp, hR, rfl⟩
      exact .inr ⟨a1, b1, p, R, y8, y9, y10, y11, y12, rfl⟩
  have rg : rngOk 8 = true := rfl
  rcases H with ⟨e, h1, a', b', h2⟩ | ⟨a', b', p', R', y8, y9, y10, y11, y12, h1⟩
  · refine ⟨a', b', ?_⟩
    have h1 : forL (.v 8) s_15_1 (rangeD 0 8) [some (bx a b), some (bkD one), some (bkD two), some (jbD B), some (.lst false (PS.map pD)), some (.tup [.int 0, .int 0]), some (.int (s2 : Nat)), some (.tup []), none, none, none, none, none] = _ := h1
    unfold c_15 callF m_15
    simp [-List.length_map, z2, hg3', fg0, hg1', rg, h1]
    rw [show fins [true, false, false, false, false] e = some [bx a' b'] from h2]
  · refine ⟨a', b', ?_⟩
    have h1 : forL (.v 8) s_15_1 (rangeD 0 8) [some (bx a b), some (bkD one), some (bkD two), some (jbD B), some (.lst false (PS.map pD)), some (.tup [.int 0, .int 0]), some (.int (s2 : Nat)), some (.tup []), none, none, none, none, none] = _ := h1
    unfold c_15 callF m_15
    simp [-List.length_map, z2, hg3', fg0, hg1', rg, h1]
end LW

namespace LW
open PySem PySem.Spec L2 EV
theorem plD_up : ∀ (n : Nat) {d : D}, plD n d = true → plD (n + 1) d = true
  | n, .non, _ => rfl
  | n, .int _, _ => rfl
  | 0, .tup ds, h => by simp [plD] at h
  | n + 1, .tup ds, h => by
    have h : ds.all (plD n) = true := h
    show ds.all (plD (n + 1)) = true
    rw [List.all_eq_true] at h ⊢
    exact fun d hd => plD_up n (h d hd)
  | n, .bl _, h => by cases n <;> simp [plD] at h
  | n, .str _, h => by cases n <;> simp [plD] at h
  | n, .lst _ _, h => by cases n <;> simp [plD] at h
  | n, .scr _, h => by cases n <;> simp [plD] at h
  | n, .dk _ _, h => by cases n <;> simp [plD] at h
  | n, .dt _ _, h => by cases n <;> simp [plD] at h
  | n, .fn _, h => by cases n <;> simp [plD] at h
theorem plD_le {n : Nat} : ∀ {m : Nat} {d : D}, plD n d = true → plD (n + m) d = true
  | 0, _, h => h
  | m + 1, _, h => plD_up _ (plD_le (m := m) h)
theorem jbD_pl (B : List (List JS)) : plD 4 (jbD B) = true := by
  show (B.map jrD).all (plD 3) = true
  rw [List.all_eq_true]
  intro d hd
  obtain ⟨row, _, rfl⟩ := List.mem_map.mp hd
  show (row.map jsD).all (plD 2) = true
  rw [List.all_eq_true]
  intro d hd
  obtain ⟨s, _, rfl⟩ := List.mem_map.mp hd
  cases s with
  | none => rfl
  | some x => obtain ⟨t, w, k⟩ := x; rfl
@[simp] theorem mZs_nil {e : DEnv} : mZs [] e = .ok [] e := rfl
@[simp] theorem mZs_cons {m : ME} {ms : List ME} {e : DEnv} : mZs (m :: ms) e = match m e with
    | .ok d e1 => match mZs ms e1 with
      | .ok ds e2 => .ok (frz d :: ds) e2
      | .ex c d e2 => .ex c d e2
      | .no => .no
    | .ex c d e1 => .ex c d e1
    | .no => .no := rfl
@[simp] theorem ap_callK {C : List D → RC} {dfl : List D} {src : List KS} {ms : List ME} {e : DEnv} : mCallK C dfl src ms e = match mZs ms e with
  | .ok ds e1 => match C (genL .non dfl src ds) with
    | .ok d _ => .ok d e1
    | .ex c d _ => .ex c d e1
    | .no => .no
  | .ex c d e1 => .ex c d e1
  | .no => .no := rfl
abbrev la (ns : List Int) (k : Option D) (a b : Int) (tk : Nat) (m t : D) (one two : List (List Stp)) (B : List (List JS)) (PS : Prs) (x11 : Option D) : DEnv :=
  [some (.scr ns), k, some (bx a b), some (.int (tk : Nat)), some m, some t, some (bkD one), some (bkD two), some (jbD B), some (.lst false (PS.map pD)), some (.tup [m, t, jbD B]), x11]
theorem turns_ok {ns : List Int} {k : Option D} {tk : Nat} {m t : D} (hm : fz m = true) (ht : fz t = true) {one two : List (List Stp)} {PS : Prs} {B : List (List JS)} {r1 r2 s1 s2 : Nat} (J : Jb one two PS B r1 r2 s1 s2) (a b : Int) (x11 : Option D) :
    ∃ a' b' x11', forL (.v 11) s_16_1 (rangeD 0 4) (la ns k a b tk m t one two B PS x11) = .nx (la ns k a' b' tk m t one two B PS x11') := by
  refine forL_rule (tg := .v 11) (m := s_16_1) (fun r => ∃ a' b' x11', r = .nx (la ns k a' b' tk m t one two B PS x11')) (ds := rangeD 0 4)
    (fun _ e => ∃ a b x11, e = la ns k a b tk m t one two B PS x11) ⟨a, b, x11, rfl⟩ ?_ ?_
  · rintro j d e hk ⟨a1, b1, y11, rfl⟩
    obtain ⟨a2, b2, h⟩ := right_ok J a1 b1
    have z1 := rwD_fzs one
    have z2 := rwD_fzs two
    have z3 := jrD_fzs B
    have z4 := pD_fzs PS
    have f3 := frzs_of z3
    have hs : s_16_1 (la ns k a1 b1 tk m t one two B PS (some d)) = .nx (la ns k a2 b2 tk m t one two B PS (some d)) := by
      unfold s_16_1
      simp [hm, ht, z1, z2, z3, z4, f3, at2, h]
    simp only [put_v, stO_some, List.set_cons_succ, List.set_cons_zero]
    rw [hs]
    exact ⟨a2, b2, some d, rfl⟩
  · rintro e ⟨a1, b1, y11, rfl⟩
    exact ⟨a1, b1, y11, rfl⟩
end LW

namespace LW
open PySem PySem.Spec L2 EV
theorem round_ok {ns : List Int} {k : Nat} {x2 x3 x4 x5 x6 x7 x8 x9 x10 x11 : Option D} :
    ∃ y2 y3 y4 y5 y6 y7 y8 y9 y10 y11, s_16_2 [some (.scr ns), some (.int (k : Nat)), x2, x3, x4, x5, x6, x7, x8, x9, x10, x11] = .nx [some (.scr ns), some (.int (k : Nat)), y2, y3, y4, y5, y6, y7, y8, y9, y10, y11] := by
  obtain ⟨a1, b1, h1⟩ := box_ok ns (k : Int) (by omega)
  obtain ⟨v, a2, b2, hv0, hv1, h2⟩ := take_ok a1 b1 3 (by decide) (by decide)
  obtain ⟨u, a3, b3, hu0, hu1, h3⟩ := take_ok a2 b2 3 (by decide) (by decide)
  obtain ⟨a4, b4, m, pm, h4⟩ := service_ok (st := (1 + u).toNat) (tk := (1 + v).toNat) (de := 9) (by decide) (by decide) (by omega) (by omega) (by omega) a3 b3
  obtain ⟨w, a5, b5, hw0, hw1, h5⟩ := take_ok a4 b4 3 (by decide) (by decide)
  obtain ⟨a6, b6, t, pt, h6⟩ := service_ok (st := (1 + w).toNat) (tk := (1 + v).toNat) (de := 9) (by decide) (by decide) (by omega) (by omega) (by omega) a5 b5
  obtain ⟨a7, b7, one, r1, s1, B1, h7⟩ := words_ok (tk := (1 + v).toNat) (by omega) (by omega) a6 b6
  obtain ⟨a8, b8, two, r2, s2, B2, h8⟩ := words_ok (tk := (1 + v).toNat) (by omega) (by omega) a7 b7
  have h9 := lawj_ok B1 B2
  have zm := plD_fz _ pm
  have zt := plD_fz _ pt
  have h10 := joined_ok zm zt B1 B2
  have J := jb_of B1 B2
  generalize hPS : (jrun one two (r1 * r2) [(0, 0)] []).1 = PS at *
  generalize hB : (jrun one two (r1 * r2) [(0, 0)] []).2 = B at *
  have ev : (((1 + v).toNat : Nat) : Int) = 1 + v := by omega
  have eu : (((1 + u).toNat : Nat) : Int) = 1 + u := by omega
  have ew : (((1 + w).toNat : Nat) : Int) = 1 + w := by omega
  have pT : plD 39 (.tup [m, t, jbD B]) = true := by
    have p1 := plD_le (m := 35) pm
    have p2 := plD_le (m := 35) pt
    have p3 := plD_le (m := 34) (jbD_pl B)
    show (plD 38 m && (plD 38 t && (plD 38 (jbD B) && true))) = true
    rw [show plD 38 m = true from p1, show plD 38 t = true from p2, show plD 38 (jbD B) = true from p3]
    rfl
  have hs := same_ok 39 _ pT
  obtain ⟨a9, b9, y11, h11⟩ := turns_ok (ns := ns) (k := some (.int (k : Nat))) (tk := (1 + v).toNat) zm zt J a8 b8 x11
  have z1 := rwD_fzs one
  have z2 := rwD_fzs two
  have f1 := frzs_of z1
  have f2 := frzs_of z2
  have z3 := jrD_fzs B
  have f3 := frzs_of z3
  have z4 := pD_fzs PS
  have fm := frz_of _ zm
  have ft := frz_of _ zt
  rw [eu, ev] at h4
  rw [ew, ev] at h6
  rw [ev] at h7 h8
  have h11 : forL (.v 11) s_16_1 (rangeD 0 4) [some (.scr ns), some (.int (k : Nat)), some (bx a8 b8), some (.int ((1 + v).toNat : Nat)), some m, some t, some (bkD one), some (bkD two), some (jbD B), some (.lst false (PS.map pD)), some (.tup [m, t, jbD B]), x11] = _ := h11
  rw [ev] at h11
  have rg : rngOk 4 = true := rfl
  have hs : c_10 40 [.tup [m, t, jbD B], .tup [m, t, jbD B]] = .ok (.bl true) [] := hs
  have fin : s_16_2 [some (.scr ns), some (.int (k : Nat)), x2, x3, x4, x5, x6, x7, x8, x9, x10, x11] = .nx (la ns (some (.int (k : Nat))) a9 b9 (1 + v).toNat m t one two B PS y11) := by
    by_cases hk : 0 < k
    · unfold s_16_2
      simp [h1, h2, h3, h4, h5, h6, h7, h8, h9, h10, hk, hs, rg, h11, zm, zt, z1, z2, z3, z4, f1, f2, f3, fm, ft, genL]
    · unfold s_16_2
      simp [h1, h2, h3, h4, h5, h6, h7, h8, h9, h10, hk, hs, rg, h11, zm, zt, z1, z2, z3, z4, f1, f2, f3, fm, ft, genL]
  rw [fin]
  exact ⟨_, _, _, _, _, _, _, _, _, _, rfl⟩
end LW

namespace LW
open PySem PySem.Spec L2 EV
theorem rounds (ns : List Int) (j : Int) :
    ∃ e, forL (.v 1) s_16_2 (rangeD 0 j) [some (.scr ns), none, none, none, none, none, none, none, none, none, none, none] = .nx e := by
  refine forL_rule (tg := .v 1) (m := s_16_2) (fun r => ∃ e, r = .nx e) (ds := rangeD 0 j)
    (fun _ e => ∃ x1 x2 x3 x4 x5 x6 x7 x8 x9 x10 x11, e = [some (.scr ns), x1, x2, x3, x4, x5, x6, x7, x8, x9, x10, x11]) ⟨_, _, _, _, _, _, _, _, _, _, _, rfl⟩ ?_ ?_
  · rintro k d e hk ⟨x1, x2, x3, x4, x5, x6, x7, x8, x9, x10, x11, rfl⟩
    obtain ⟨rfl, _⟩ := rg_get hk
    obtain ⟨y2, y3, y4, y5, y6, y7, y8, y9, y10, y11, h⟩ := round_ok (ns := ns) (k := k) (x2 := x2) (x3 := x3) (x4 := x4) (x5 := x5) (x6 := x6) (x7 := x7) (x8 := x8) (x9 := x9) (x10 := x10) (x11 := x11)
    simp only [put_v, stO_some, List.set_cons_succ, List.set_cons_zero]
    have e0 : ((0 : Int) + (k : Nat)) = (k : Nat) := by omega
    rw [e0, h]
    exact ⟨_, _, _, _, _, _, _, _, _, _, _, rfl⟩
  · rintro e ⟨x1, x2, x3, x4, x5, x6, x7, x8, x9, x10, x11, rfl⟩
    exact ⟨_, rfl⟩
theorem plain0 (ns : List Int) (h : ns.length ≤ 63) : ∃ e, m_16 [some (.scr ns), none, none, none, none, none, none, none, none, none, none, none] = .rt (.bl true) e := by
  obtain ⟨j, hj1, hj2, hj⟩ : ∃ j : Int, -1000 < j ∧ j < 1000 ∧ (mOp2 max2D (.e (mC (.int 5))) (.e (mOp2 min2D (.e (mOp1 lenD (.v 0))) (.e (mC (.int 10)))))) [some (.scr ns), none, none, none, none, none, none, none, none, none, none, none] = .ok (.int j) [some (.scr ns), none, none, none, none, none, none, none, none, none, none, none] := by
    by_cases h1 : (10 : Int) < (ns.length : Int)
    · exact ⟨10, by omega, by omega, by simp [h1, lenD]⟩
    · by_cases h2 : (ns.length : Int) > 5
      · exact ⟨ns.length, by omega, by omega, by simp [h1, h2, lenD]⟩
      · exact ⟨5, by omega, by omega, by simp [h1, h2, lenD]⟩
  obtain ⟨e, he⟩ := rounds ns j
  have rg : rngOk j = true := rngOk_s (by omega) (by omega)
  refine ⟨e, ?_⟩
  unfold m_16
  simp [hj, rg, he, -ap_op2]
theorem plain (ns : List Int) (h : ns.length ≤ 63) : ∃ fin, c_16 [.scr ns] = .ok (.bl true) fin := by
  obtain ⟨e, he⟩ := plain0 ns h
  unfold c_16 callF
  simp [he]
end LW

namespace LW
open PySem PySem.Spec PyProof.Rows L2 EV
def fn : List He.DefD := [d1, d2, d4, d5, d7, d8, d9, d10, d11, d12, d13, d14, d15, d16]
def fa : List He.Fa := [.glo "step_at", .glo "row_room", .glo "joined_step", .glo "joined_words", .glo "_law_box", .glo "_law_take", .glo "_law_pick", .glo "_law_same", .glo "_law_closed", .glo "_law_service", .glo "_law_words", .glo "_law_joined", .glo "_law_row_right", .glo "law", .free "len", .free "abs", .free "int", .free "tuple", .free "list", .free "max", .free "min", .free "isinstance", .free "range", .free "zip", .free "bool", .free "str"]
abbrev theRow : PySem.W.OpenRow := PySem.W.OpenLaw.row PySem.Challenge.rw_fairanyprice_k11_two_books_of_one_row
abbrev theHook : PySem.W.Hook := He.hookD 4 fa fn
def seen (s : PySem.W.SharedT) : He.AlD :=
  He.obsDG 4 fa fn (HandSHeadRun.getT s)
theorem seen_eq (s : PySem.W.SharedT) :
    seen s = theHook.obs s.abs :=
  He.obsDG_eq (HandSHeadRun.getT_eq s)
theorem runs (w : World) : HandSHeadRun.RunEq theRow (PySem.W.view theRow.prog [16]) theHook seen 4000
    ((["step_at", "row_room", "joined_step", "joined_words", "_law_box", "_law_take", "_law_pick", "_law_same", "_law_closed", "_law_service", "_law_words", "_law_joined", "_law_row_right"] : List Str)) w := by
  intro os
  kernel_rfl
theorem dn {K : PySem.W.Frag} {h : Heap} {mg : Str → Option Value} (X : K.In h) (G : h.Ns mainGlobals mg) (c : He.SaysD fa fn K) : ∃ fd, Dn K mg fd := by
  obtain ⟨e1, F1⟩ := c.def_ 0 (d := d1) rfl
  obtain ⟨e2, F2⟩ := c.def_ 1 (d := d2) rfl
  obtain ⟨e4, F4⟩ := c.def_ 2 (d := d4) rfl
  obtain ⟨e5, F5⟩ := c.def_ 3 (d := d5) rfl
  obtain ⟨e7, F7⟩ := c.def_ 4 (d := d7) rfl
  obtain ⟨e8, F8⟩ := c.def_ 5 (d := d8) rfl
  obtain ⟨e9, F9⟩ := c.def_ 6 (d := d9) rfl
  obtain ⟨e10, F10⟩ := c.def_ 7 (d := d10) rfl
  obtain ⟨e11, F11⟩ := c.def_ 8 (d := d11) rfl
  obtain ⟨e12, F12⟩ := c.def_ 9 (d := d12) rfl
  obtain ⟨e13, F13⟩ := c.def_ 10 (d := d13) rfl
  obtain ⟨e14, F14⟩ := c.def_ 11 (d := d14) rfl
  obtain ⟨e15, F15⟩ := c.def_ 12 (d := d15) rfl
  obtain ⟨e16, F16⟩ := c.def_ 13 (d := d16) rfl
  refine ⟨fun n => match n with
    | 1 => e1
    | 2 => e2
    | 4 => e4
    | 5 => e5
    | 7 => e7
    | 8 => e8
    | 9 => e9
    | 10 => e10
    | 11 => e11
    | 12 => e12
    | 13 => e13
    | 14 => e14
    | 15 => e15
    | 16 => e16
    | _ => e1, ?_⟩
  exact {
    f1 := F1
    m1 := He.glo_ok X G (c.fact 0 (f := .glo "step_at") rfl)
    f2 := F2
    m2 := He.glo_ok X G (c.fact 1 (f := .glo "row_room") rfl)
    f4 := F4
    m4 := He.glo_ok X G (c.fact 2 (f := .glo "joined_step") rfl)
    f5 := F5
    m5 := He.glo_ok X G (c.fact 3 (f := .glo "joined_words") rfl)
    f7 := F7
    m7 := He.glo_ok X G (c.fact 4 (f := .glo "_law_box") rfl)
    f8 := F8
    m8 := He.glo_ok X G (c.fact 5 (f := .glo "_law_take") rfl)
    f9 := F9
    m9 := He.glo_ok X G (c.fact 6 (f := .glo "_law_pick") rfl)
    f10 := F10
    m10 := He.glo_ok X G (c.fact 7 (f := .glo "_law_same") rfl)
    f11 := F11
    m11 := He.glo_ok X G (c.fact 8 (f := .glo "_law_closed") rfl)
    f12 := F12
    m12 := He.glo_ok X G (c.fact 9 (f := .glo "_law_service") rfl)
    f13 := F13
    m13 := He.glo_ok X G (c.fact 10 (f := .glo "_law_words") rfl)
    f14 := F14
    m14 := He.glo_ok X G (c.fact 11 (f := .glo "_law_joined") rfl)
    f15 := F15
    m15 := He.glo_ok X G (c.fact 12 (f := .glo "_law_row_right") rfl)
    f16 := F16
    m16 := He.glo_ok X G (c.fact 13 (f := .glo "law") rfl)
    fr := fun x hx => by
      rcases List.mem_cons.mp hx with hx | hx
      · subst hx; exact He.free_ok X G (c.fact 14 (f := .free "len") rfl)
      rcases List.mem_cons.mp hx with hx | hx
      · subst hx; exact He.free_ok X G (c.fact 15 (f := .free "abs") rfl)
      rcases List.mem_cons.mp hx with hx | hx
      · subst hx; exact He.free_ok X G (c.fact 16 (f := .free "int") rfl)
      rcases List.mem_cons.mp hx with hx | hx
      · subst hx; exact He.free_ok X G (c.fact 17 (f := .free "tuple") rfl)
      rcases List.mem_cons.mp hx with hx | hx
      · subst hx; exact He.free_ok X G (c.fact 18 (f := .free "list") rfl)
      rcases List.mem_cons.mp hx with hx | hx
      · subst hx; exact He.free_ok X G (c.fact 19 (f := .free "max") rfl)
      rcases List.mem_cons.mp hx with hx | hx
      · subst hx; exact He.free_ok X G (c.fact 20 (f := .free "min") rfl)
      rcases List.mem_cons.mp hx with hx | hx
      · subst hx; exact He.free_ok X G (c.fact 21 (f := .free "isinstance") rfl)
      rcases List.mem_cons.mp hx with hx | hx
      · subst hx; exact He.free_ok X G (c.fact 22 (f := .free "range") rfl)
      rcases List.mem_cons.mp hx with hx | hx
      · subst hx; exact He.free_ok X G (c.fact 23 (f := .free "zip") rfl)
      rcases List.mem_cons.mp hx with hx | hx
      · subst hx; exact He.free_ok X G (c.fact 24 (f := .free "bool") rfl)
      rcases List.mem_cons.mp hx with hx | hx
      · subst hx; exact He.free_ok X G (c.fact 25 (f := .free "str") rfl)
      cases hx }
end LW
open PySem PySem.W PySem.Calls PyProof.Rows
theorem PySem.Challenge.cw_fairanyprice_k11_two_books_of_one_row_holds : PySem.Challenge.rw_fairanyprice_k11_two_books_of_one_row.Holds := by
  w_on; o_law
  refine HandSHeadRun.head_any (r := LW.theRow) (q := view LW.theRow.prog [16]) (H := LW.theHook) (ob := LW.seen)
    (M := 4000) (loose := ((["step_at", "row_room", "joined_step", "joined_words", "_law_box", "_law_take", "_law_pick", "_law_same", "_law_closed", "_law_service", "_law_words", "_law_joined", "_law_row_right"] : List PySem.Str)))
    (d := HandSHeadRun.topDef LW.theRow.prog 16) (kwd := []) LW.seen_eq
    (by kernel_rfl) (fun s => by kernel_rfl) LW.runs (by kernel_rfl) (by kernel_rfl) (by kernel_rfl)
    (by rfl) (by first | assumption | decide +kernel) (by decide +kernel)
    ⟨rfl, rfl, rfl, rfl, rfl, by decide +kernel⟩ ?hw ?hc
  case hw => w_witness2
  case hc =>
    refine L2.walk_ofE (l := PySem.Challenge.rw_fairanyprice_k11_two_books_of_one_row) (n := 63) (k := 42) (x := "script")
      (CX := fun o H s E u s' => ∃ w, L2.CX PySem.Challenge.rw_fairanyprice_k11_two_books_of_one_row.prog w o H s E u s')
      rfl (by decide) (by kernel_rfl) ⟨rfl, by decide, by decide⟩ ?F (fun _ _ _ _ ⟨_, _, _, _, _, _, _, _, _, _, _, _, _, z⟩ => z)
    intro w mg fa h Y G hmg0
    obtain ⟨K, KX, c⟩ := Y
    obtain ⟨fd, T⟩ := LW.dn KX G c
    have hmg : mg ("law" : PySem.Str) = some (.ref fa) := by
      have e : (HandSHeadRun.topDef LW.theRow.prog 16).name = ("law" : PySem.Str) := by kernel_rfl
      rw [← e]; exact hmg0
    have e := hmg.symm.trans T.m16
    injection e with e
    injection e with e
    subst e
    refine ⟨K, fd 16, EV.Prom ⟨LW.g0, K⟩ LW.mask_16 LW.c_16, KX, fun s u => ?_, fun H a ns hl _ hS => ?_, fun base _ _ => ?_⟩
    · exact L2.FunD.bindsA (ps := ["script"]) T.f16 (fun _ _ _ _ _ _ us hl => match us, hl with | [_], _ => rfl) s [u] rfl
    · obtain ⟨fin, hp⟩ := LW.plain ns hl
      refine ⟨rfl, H, [], [.scr ns], EV.ROs.consZ (.scr hS) .nil, List.nodup_nil, (fun _ z => nomatch z), (fun _ _ z => z), ?_⟩
      rw [hp]
      exact fun v F' H' q r ro _ _ _ _ _ => ro.bl_inv
    · exact EV.weakCX (fun o H s E u s' z => ⟨w, z⟩) (LW.ok_16 T)
