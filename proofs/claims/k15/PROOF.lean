import PyProof.Rows.All
import HandS.ForMost
import HandS.Deep
import HandS.IsInst
import HandS.Zip
import HandS.TupAny
import HandS.Conv
import HandS.Style
import HandS.Flow
import HandS.Exc
import HandS.Wide
import HandS.CallSlots
import HandS.Defaults
import HandS.List
import HandS.ExcInit
import HandS.ExcField
import HandS.ExcSuper
import HandS.TryOnly
import KE.KExcSuper
import KE.KSuper
import HandS.ExcIs
import HandS.HeadHook2
import KE.GoesMore
import KE.KExcIs
import Wide.All
import OpenK.AllK
import Wide.FinOn
import KE.KStateDown
import Lean
import HandS.Base
import HandS.Call
import HandS.Ends
import HandS.More
import HandS.Words
import HandS.WordsExc
import HandS.Head0
import HandS.Head1
import HandS.Head2
import HandS.HeadEnd
import HandS.HeadHook1
import PySem.Challenge.RW_fairanyprice_k15_what_are_prices
set_option Elab.async false
set_option linter.all false
set_option maxRecDepth 100000
set_option maxHeartbeats 0
/-! EvA: the data of the plain reading, what it stands for on the heap. -/
namespace EV
open PySem PySem.Spec PyProof.Rows L2

/-- plain data: a list or a dict bears a flag: true, it is its holder's alone and may be written; false, it is shared and never written again -/
inductive D where
  | non | bl (b : Bool) | int (i : Int) | str (s : Str)
  | tup (xs : List D) | lst (o : Bool) (xs : List D) | scr (ns : List Int)
  | dk (o : Bool) (kvs : List (Key × D)) | dt (o : Bool) (kvs : List (List Key × D)) | fn (i : Nat)
instance : Inhabited D := ⟨.non⟩

mutual
/-- shared from now on -/
def frz : D → D
  | .tup xs => .tup (frzs xs)
  | .lst _ xs => .lst false (frzs xs)
  | .dk _ kvs => .dk false kvs
  | .dt _ kvs => .dt false kvs
  | d => d
def frzs : List D → List D
  | [] => []
  | d :: ds => frz d :: frzs ds
end
mutual
/-- nothing in it may be written -/
def fz : D → Bool
  | .tup xs => fzs xs
  | .lst o xs => !o && fzs xs
  | .dk o _ => !o
  | .dt o _ => !o
  | _ => true
def fzs : List D → Bool
  | [] => true
  | d :: ds => fz d && fzs ds
end
mutual
theorem frz_of : ∀ d : D, fz d = true → frz d = d
  | .non, _ => rfl
  | .bl _, _ => rfl
  | .int _, _ => rfl
  | .str _, _ => rfl
  | .scr _, _ => rfl
  | .fn _, _ => rfl
  | .tup xs, h => congrArg D.tup (frzs_of xs h)
  | .lst o xs, h => by
    have h2 : (!o && fzs xs) = true := h
    rw [Bool.and_eq_true] at h2
    show D.lst false (frzs xs) = D.lst o xs
    rw [frzs_of xs h2.2]
    cases o
    · rfl
    · exact absurd h2.1 (by decide)
  | .dk o kvs, h => by
    cases o
    · rfl
    · cases h
  | .dt o kvs, h => by
    cases o
    · rfl
    · cases h
theorem frzs_of : ∀ ds : List D, fzs ds = true → frzs ds = ds
  | [], _ => rfl
  | d :: ds, h => by
    have h2 : (fz d && fzs ds) = true := h
    rw [Bool.and_eq_true] at h2
    show frz d :: frzs ds = d :: ds
    rw [frz_of d h2.1, frzs_of ds h2.2]
end
mutual
theorem fz_frz : ∀ d : D, fz (frz d) = true
  | .non => rfl
  | .bl _ => rfl
  | .int _ => rfl
  | .str _ => rfl
  | .scr _ => rfl
  | .fn _ => rfl
  | .tup xs => fzs_frzs xs
  | .lst o xs => by
    show (!false && fzs (frzs xs)) = true
    rw [fzs_frzs xs]; rfl
  | .dk o kvs => rfl
  | .dt o kvs => rfl
theorem fzs_frzs : ∀ ds : List D, fzs (frzs ds) = true
  | [] => rfl
  | d :: ds => by
    show (fz (frz d) && fzs (frzs ds)) = true
    rw [fz_frz d, fzs_frzs ds]; rfl
end
theorem frzs_map : ∀ ds : List D, frzs ds = ds.map frz
  | [] => rfl
  | d :: ds => by
    show frz d :: frzs ds = _
    rw [frzs_map ds]; rfl
theorem fzs_all : ∀ ds : List D, fzs ds = ds.all fz
  | [] => rfl
  | d :: ds => by
    show (fz d && fzs ds) = _
    rw [fzs_all ds]; rfl

/-! ### what data stand for -/
/-- global facts that data lean on: the functions by number -/
structure GF where
  fa : Nat → Addr
  ca : Nat → Addr
  xn : Nat → Str
structure GI extends GF where
  K : PySem.W.Frag

mutual
/-- v is d: F the shared heap, H all of it; the list: whose alone -/
inductive RO (G : GI) (F H : Hp) : List Addr → V → D → Prop
  | non : RO G F H [] .non .non
  | bl (b : Bool) : RO G F H [] (.bl b) (.bl b)
  | int (i : Int) : RO G F H [] (.int i) (.int i)
  | str (s : Str) : RO G F H [] (.str s) (.str s)
  | tup {a : Addr} {vs : List V} {ds : List D} {fs : List Addr} : F a = some (.tup vs) → ROs G F H fs vs ds → RO G F H fs (.ref a) (.tup ds)
  | lz {a : Addr} {vs : List V} {ds : List D} : F a = some (.lst vs) → ROs G F H [] vs ds → RO G F H [] (.ref a) (.lst false ds)
  | lo {a : Addr} {vs : List V} {ds : List D} {fs : List Addr} : H a = some (.lst vs) → ROs G F H fs vs ds → RO G F H (a :: fs) (.ref a) (.lst true ds)
  | scr {a : Addr} {ns : List Int} : SqL G.K F a (ns.map V.int) → RO G F H [] (.ref a) (.scr ns)
  | dkz {a : Addr} {kvs : List (Key × V)} {kds : List (Key × D)} : F a = some (.dK kvs) → kvs.map (·.1) = kds.map (·.1) → ROs G F H [] (kvs.map (·.2)) (kds.map (·.2)) → RO G F H [] (.ref a) (.dk false kds)
  | dko {a : Addr} {kvs : List (Key × V)} {kds : List (Key × D)} : H a = some (.dK kvs) → kvs.map (·.1) = kds.map (·.1) → ROs G F H [] (kvs.map (·.2)) (kds.map (·.2)) → RO G F H [a] (.ref a) (.dk true kds)
  | dtz {a : Addr} {kvs : List (List Key × V)} {kds : List (List Key × D)} : F a = some (.dT kvs) → kvs.map (·.1) = kds.map (·.1) → ROs G F H [] (kvs.map (·.2)) (kds.map (·.2)) → RO G F H [] (.ref a) (.dt false kds)
  | dto {a : Addr} {kvs : List (List Key × V)} {kds : List (List Key × D)} : H a = some (.dT kvs) → kvs.map (·.1) = kds.map (·.1) → ROs G F H [] (kvs.map (·.2)) (kds.map (·.2)) → RO G F H [a] (.ref a) (.dt true kds)
  | fn (i : Nat) : RO G F H [] (.ref (G.fa i)) (.fn i)
inductive ROs (G : GI) (F H : Hp) : List Addr → List V → List D → Prop
  | nil : ROs G F H [] [] []
  | cons {f fs : List Addr} {v : V} {vs : List V} {d : D} {ds : List D} : RO G F H f v d → ROs G F H fs vs ds → ROs G F H (f ++ fs) (v :: vs) (d :: ds)
end
section
variable {G : GI} {F H F' H' : Hp}
theorem SqL.le {K : PySem.W.Frag} {a : Addr} {xs : List V} (h : SqL K F a xs) (hF : ∀ a o, F a = some o → F' a = some o) : SqL K F' a xs := by
  rcases h with (h | ⟨o, h⟩) | h
  · exact .inl (.inl (hF _ _ h))
  · exact .inl (.inr ⟨o, hF _ _ h⟩)
  · exact .inr h
mutual
theorem RO.mono (hF : ∀ a o, F a = some o → F' a = some o) : ∀ {p : List Addr} {v : V} {d : D}, RO G F H p v d → (∀ a, a ∈ p → ∀ o, H a = some o → H' a = some o) → RO G F' H' p v d
  | _, _, _, .non, _ => .non
  | _, _, _, .bl b, _ => .bl b
  | _, _, _, .int i, _ => .int i
  | _, _, _, .str i, _ => .str i
  | _, _, _, .fn i, _ => .fn i
  | _, _, _, .tup e r, h => .tup (hF _ _ e) (ROs.mono hF r h)
  | _, _, _, .lz e r, h => .lz (hF _ _ e) (ROs.mono hF r fun a z => nomatch z)
  | _, _, _, .lo e r, h => .lo (h _ (List.mem_cons_self ..) _ e) (ROs.mono hF r fun a z => h a (List.mem_cons_of_mem _ z))
  | _, _, _, .scr e, _ => .scr (SqL.le e hF)
  | _, _, _, .dkz e k r, h => .dkz (hF _ _ e) k (ROs.mono hF r fun a z => nomatch z)
  | _, _, _, .dko e k r, h => .dko (h _ (List.mem_cons_self ..) _ e) k (ROs.mono hF r fun a z => nomatch z)
  | _, _, _, .dtz e k r, h => .dtz (hF _ _ e) k (ROs.mono hF r fun a z => nomatch z)
  | _, _, _, .dto e k r, h => .dto (h _ (List.mem_cons_self ..) _ e) k (ROs.mono hF r fun a z => nomatch z)
theorem ROs.mono (hF : ∀ a o, F a = some o → F' a = some o) : ∀ {p : List Addr} {v : List V} {d : List D}, ROs G F H p v d → (∀ a, a ∈ p → ∀ o, H a = some o → H' a = some o) → ROs G F' H' p v d
  | _, _, _, .nil, _ => .nil
  | _, _, _, .cons r rs, h => .cons (RO.mono hF r fun a z => h a (List.mem_append_left _ z)) (ROs.mono hF rs fun a z => h a (List.mem_append_right _ z))
end
theorem RO.monoZ (hF : ∀ a o, F a = some o → F' a = some o) {v : V} {d : D} (r : RO G F H [] v d) : RO G F' H' [] v d := r.mono hF fun a z => nomatch z
theorem ROs.monoZ (hF : ∀ a o, F a = some o → F' a = some o) {v : List V} {d : List D} (r : ROs G F H [] v d) : ROs G F' H' [] v d := r.mono hF fun a z => nomatch z
theorem RO.cast {p q : List Addr} {v : V} {d : D} (r : RO G F H p v d) (e : p = q) : RO G F H q v d := e ▸ r
theorem ROs.cast {p q : List Addr} {v : List V} {d : List D} (r : ROs G F H p v d) (e : p = q) : ROs G F H q v d := e ▸ r
mutual
/-- all of it becomes shared -/
theorem RO.frz (hF : ∀ a o, F a = some o → F' a = some o) : ∀ {p : List Addr} {v : V} {d : D}, RO G F H p v d → (∀ a, a ∈ p → ∀ o, H a = some o → F' a = some o) → RO G F' H' [] v (frz d)
  | _, _, _, .non, _ => .non
  | _, _, _, .bl b, _ => .bl b
  | _, _, _, .int i, _ => .int i
  | _, _, _, .str i, _ => .str i
  | _, _, _, .fn i, _ => .fn i
  | _, _, _, .tup e r, h => .tup (hF _ _ e) (ROs.frz hF r h)
  | _, _, _, .lz e r, h => .lz (hF _ _ e) (ROs.frz hF r fun a z => nomatch z)
  | _, _, _, .lo e r, h => .lz (h _ (List.mem_cons_self ..) _ e) (ROs.frz hF r fun a z => h a (List.mem_cons_of_mem _ z))
  | _, _, _, .scr e, _ => .scr (SqL.le e hF)
  | _, _, _, .dkz e k r, h => .dkz (hF _ _ e) k (r.monoZ hF)
  | _, _, _, .dko e k r, h => .dkz (h _ (List.mem_cons_self ..) _ e) k (r.monoZ hF)
  | _, _, _, .dtz e k r, h => .dtz (hF _ _ e) k (r.monoZ hF)
  | _, _, _, .dto e k r, h => .dtz (h _ (List.mem_cons_self ..) _ e) k (r.monoZ hF)
theorem ROs.frz (hF : ∀ a o, F a = some o → F' a = some o) : ∀ {p : List Addr} {v : List V} {d : List D}, ROs G F H p v d → (∀ a, a ∈ p → ∀ o, H a = some o → F' a = some o) → ROs G F' H' [] v (frzs d)
  | _, _, _, .nil, _ => .nil
  | _, _, _, .cons r rs, h => .cons (RO.frz hF r fun a z => h a (List.mem_append_left _ z)) (ROs.frz hF rs fun a z => h a (List.mem_append_right _ z))
end
mutual
theorem RO.nil_of_fz : ∀ {p : List Addr} {v : V} {d : D}, RO G F H p v d → fz d = true → p = []
  | _, _, _, .non, _ => rfl
  | _, _, _, .bl b, _ => rfl
  | _, _, _, .int i, _ => rfl
  | _, _, _, .str i, _ => rfl
  | _, _, _, .fn i, _ => rfl
  | _, _, _, .tup e r, h => ROs.nil_of_fz r h
  | _, _, _, .lz e r, h => rfl
  | _, _, _, .lo e r, h => by cases h
  | _, _, _, .scr e, _ => rfl
  | _, _, _, .dkz e k r, h => rfl
  | _, _, _, .dko e k r, h => by cases h
  | _, _, _, .dtz e k r, h => rfl
  | _, _, _, .dto e k r, h => by cases h
theorem ROs.nil_of_fz : ∀ {p : List Addr} {v : List V} {d : List D}, ROs G F H p v d → fzs d = true → p = []
  | _, _, _, .nil, _ => rfl
  | _, _, _, .cons (d := d) (ds := ds) r rs, h => by
    have h2 : (fz d && fzs ds) = true := h
    rw [Bool.and_eq_true] at h2
    rw [RO.nil_of_fz r h2.1, ROs.nil_of_fz rs h2.2]; rfl
end
mutual
theorem RO.fz_of_nil : ∀ {p : List Addr} {v : V} {d : D}, RO G F H p v d → p = [] → fz d = true
  | _, _, _, .non, _ => rfl
  | _, _, _, .bl b, _ => rfl
  | _, _, _, .int i, _ => rfl
  | _, _, _, .str i, _ => rfl
  | _, _, _, .fn i, _ => rfl
  | _, _, _, .tup e r, h => ROs.fz_of_nil r h
  | _, _, _, .lz (ds := ds) e r, h => by
    show (!false && fzs ds) = true
    rw [ROs.fz_of_nil r rfl]; rfl
  | _, _, _, .lo e r, h => by cases h
  | _, _, _, .scr e, _ => rfl
  | _, _, _, .dkz e k r, h => rfl
  | _, _, _, .dko e k r, h => by cases h
  | _, _, _, .dtz e k r, h => rfl
  | _, _, _, .dto e k r, h => by cases h
theorem ROs.fz_of_nil : ∀ {p : List Addr} {v : List V} {d : List D}, ROs G F H p v d → p = [] → fzs d = true
  | _, _, _, .nil, _ => rfl
  | _, _, _, .cons (d := d) (ds := ds) r rs, h => by
    have h2 := List.append_eq_nil_iff.mp h
    show (fz d && fzs ds) = true
    rw [RO.fz_of_nil r h2.1, ROs.fz_of_nil rs h2.2]; rfl
end
theorem RO.z {v : V} {d : D} (r : RO G F H [] v d) : EV.frz d = d := frz_of d (r.fz_of_nil rfl)
theorem ROs.z {v : List V} {d : List D} (r : ROs G F H [] v d) : frzs d = d := frzs_of d (r.fz_of_nil rfl)
mutual
/-- what is one's own is tracked -/
theorem RO.there : ∀ {p : List Addr} {v : V} {d : D}, RO G F H p v d → ∀ a, a ∈ p → ∃ o, H a = some o
  | _, _, _, .non, _, z => nomatch z
  | _, _, _, .bl b, _, z => nomatch z
  | _, _, _, .int i, _, z => nomatch z
  | _, _, _, .str i, _, z => nomatch z
  | _, _, _, .fn i, _, z => nomatch z
  | _, _, _, .tup e r, a, z => ROs.there r a z
  | _, _, _, .lz e r, _, z => nomatch z
  | _, _, _, .lo e r, a, z => by
    rcases List.mem_cons.mp z with q | q
    · exact q ▸ ⟨_, e⟩
    · exact ROs.there r a q
  | _, _, _, .scr e, _, z => nomatch z
  | _, _, _, .dkz e k r, _, z => nomatch z
  | _, _, _, .dko e k r, a, z => by
    rcases List.mem_cons.mp z with q | q
    · exact q ▸ ⟨_, e⟩
    · cases q
  | _, _, _, .dtz e k r, _, z => nomatch z
  | _, _, _, .dto e k r, a, z => by
    rcases List.mem_cons.mp z with q | q
    · exact q ▸ ⟨_, e⟩
    · cases q
theorem ROs.there : ∀ {p : List Addr} {v : List V} {d : List D}, ROs G F H p v d → ∀ a, a ∈ p → ∃ o, H a = some o
  | _, _, _, .nil, _, z => nomatch z
  | _, _, _, .cons r rs, a, z => (List.mem_append.mp z).elim (RO.there r a) (ROs.there rs a)
end
theorem ROs.length : ∀ {p : List Addr} {v : List V} {d : List D}, ROs G F H p v d → v.length = d.length
  | _, _, _, .nil => rfl
  | _, _, _, .cons r rs => congrArg (· + 1) (ROs.length rs)
theorem ROs.inv {p : List Addr} {v : V} {vs : List V} {d : D} {ds : List D} (r : ROs G F H p (v :: vs) (d :: ds)) : ∃ f fs, p = f ++ fs ∧ RO G F H f v d ∧ ROs G F H fs vs ds := by
  cases r with
  | cons r rs => exact ⟨_, _, rfl, r, rs⟩
theorem ROs.invD {p : List Addr} {vs : List V} {d : D} {ds : List D} (r : ROs G F H p vs (d :: ds)) : ∃ v ws f fs, vs = v :: ws ∧ p = f ++ fs ∧ RO G F H f v d ∧ ROs G F H fs ws ds := by
  cases r with
  | cons r rs => exact ⟨_, _, _, _, rfl, rfl, r, rs⟩
theorem ROs.invN {p : List Addr} {vs : List V} (r : ROs G F H p vs []) : vs = [] ∧ p = [] := by
  cases r
  exact ⟨rfl, rfl⟩
theorem ROs.unconsZ {v : V} {vs : List V} {d : D} {ds : List D} (r : ROs G F H [] (v :: vs) (d :: ds)) : RO G F H [] v d ∧ ROs G F H [] vs ds := by
  obtain ⟨f, fs, e, r1, r2⟩ := r.inv
  obtain ⟨e1, e2⟩ := List.append_eq_nil_iff.mp e.symm
  subst e1 e2
  exact ⟨r1, r2⟩
theorem ROs.get : ∀ {d : List D} {v : List V} {i : Nat} {x : D}, ROs G F H [] v d → d[i]? = some x → ∃ u, v[i]? = some u ∧ RO G F H [] u x
  | [], _, _, _, _, h => by simp at h
  | d :: ds, [], _, _, r, _ => nomatch (r.length)
  | d :: ds, v :: vs, 0, x, r, h => by
    simp at h; subst h
    exact ⟨v, by simp, r.unconsZ.1⟩
  | d :: ds, v :: vs, i + 1, x, r, h => by
    obtain ⟨u, h1, h2⟩ := ROs.get (i := i) (x := x) r.unconsZ.2 (by simpa using h)
    exact ⟨u, by simpa using h1, h2⟩
theorem ROs.consZ {v : V} {vs : List V} {d : D} {ds : List D} (r : RO G F H [] v d) (rs : ROs G F H [] vs ds) : ROs G F H [] (v :: vs) (d :: ds) := ROs.cons r rs
theorem ROs.append : ∀ {p q : List Addr} {v w : List V} {d e : List D}, ROs G F H p v d → ROs G F H q w e → ROs G F H (p ++ q) (v ++ w) (d ++ e)
  | _, _, _, _, _, _, .nil, s => s
  | _, _, _, _, _, _, .cons r rs, s => (ROs.cons r (ROs.append rs s)).cast (List.append_assoc ..).symm
theorem ROs.one {p : List Addr} {v : V} {d : D} (r : RO G F H p v d) : ROs G F H p [v] [d] := (ROs.cons r .nil).cast (List.append_nil _)
end
end EV

/-! EvB: the state, its steps, the readings. -/
namespace EV
open PySem PySem.Spec PyProof.Rows L2

abbrev DEnv := List (Option D)
/-- how an expression ends, a statement, a call -/
inductive RE where
  | ok (d : D) (e : DEnv) | ex (c : Nat) (d : D) (e : DEnv) | no
inductive RS where
  | nx (e : DEnv) | rt (d : D) (e : DEnv) | bk (e : DEnv) | ct (e : DEnv) | ex (c : Nat) (d : D) (e : DEnv) | no
inductive RC where
  | ok (d : D) (fin : List D) | ex (c : Nat) (d : D) (fin : List D) | no
abbrev ME := DEnv → RE
abbrev MS := DEnv → RS

def own (fp : Nat → List Addr) (a : Addr) : Prop := ∃ i, a ∈ fp i
structure SO (G : GI) (F H : Hp) (fp : Nat → List Addr) (σ : L2.St) (e : DEnv) : Prop where
  sub : ∀ a o, F a = some o → H a = some o
  rep : ∀ i d, e[i]? = some (some d) → ∃ v, σ[i]? = some (some v) ∧ RO G F H (fp i) v d
  nd : ∀ i, (fp i).Nodup
  dj : ∀ i j a, a ∈ fp i → a ∈ fp j → i = j
  sep : ∀ i a, a ∈ fp i → F a = none
  th : ∀ i a, a ∈ fp i → ∃ o, H a = some o
  len : σ.length = e.length
structure Tr (F H : Hp) (O : Addr → Prop) (F' H' : Hp) (O' : Addr → Prop) : Prop where
  ff : ∀ a o, F a = some o → F' a = some o
  fr : ∀ a o, ¬ O a → H a = some o → H' a = some o
  ow : ∀ a, O' a → O a ∨ H a = none
  fz : ∀ a o, F' a = some o → F a = some o ∨ O a ∨ H a = none
structure TO (G : GI) (F H : Hp) (fp : Nat → List Addr) (p : List Addr) (v : V) (d : D) : Prop where
  r : RO G F H p v d
  nd : p.Nodup
  sep : ∀ a, a ∈ p → F a = none
  dj : ∀ a, a ∈ p → ¬ own fp a
structure TOs (G : GI) (F H : Hp) (fp : Nat → List Addr) (p : List Addr) (v : List V) (d : List D) : Prop where
  r : ROs G F H p v d
  nd : p.Nodup
  sep : ∀ a, a ∈ p → F a = none
  dj : ∀ a, a ∈ p → ¬ own fp a
section
variable {G : GI} {F H F1 H1 F2 H2 : Hp} {O O1 O2 : Addr → Prop} {fp fp1 fp2 : Nat → List Addr} {p q : List Addr} {v : V} {d : D} {vs : List V} {ds : List D} {σ : L2.St} {e : DEnv}
theorem Tr.refl : Tr F H O F H O := ⟨fun _ _ h => h, fun _ _ _ h => h, fun _ h => .inl h, fun _ _ h => .inl h⟩
theorem Tr.trans (a : Tr F H O F1 H1 O1) (b : Tr F1 H1 O1 F2 H2 O2) : Tr F H O F2 H2 O2 where
  ff := fun c o h => b.ff c o (a.ff c o h)
  fr := fun c o n h => by
    refine b.fr c o (fun z => ?_) (a.fr c o n h)
    rcases a.ow c z with q | q
    · exact n q
    · rw [h] at q; cases q
  ow := fun c h => by
    rcases b.ow c h with q | q
    · exact a.ow c q
    · by_cases z : O c
      · exact .inl z
      · cases r : H c with
        | none => exact .inr rfl
        | some o =>
          have := a.fr c o z r
          rw [q] at this; cases this
  fz := fun c o h => by
    rcases b.fz c o h with q | q | q
    · exact a.fz c o q
    · exact .inr (a.ow c q)
    · by_cases z : O c
      · exact .inr (.inl z)
      · cases r : H c with
        | none => exact .inr (.inr rfl)
        | some o =>
          have := a.fr c o z r
          rw [q] at this; cases this
theorem Tr.weak {P P1 : Addr → Prop} (a : Tr F H O F1 H1 O1) (h : ∀ c, O c → P c) (h1 : ∀ c, P1 c → O1 c ∨ P c) : Tr F H P F1 H1 P1 :=
  ⟨a.ff, fun c o n => a.fr c o fun z => n (h c z), fun c z => (h1 c z).elim (fun z => (a.ow c z).imp (h c) id) .inl, fun c o z => (a.fz c o z).imp id (Or.imp (h c) id)⟩
theorem Tr.drop {P1 : Addr → Prop} (a : Tr F H O F1 H1 O1) (h1 : ∀ c, P1 c → O1 c) : Tr F H O F1 H1 P1 := a.weak (fun _ z => z) fun c z => .inl (h1 c z)
/-- a value held meanwhile -/
theorem TO.keep (t : TO G F H fp p v d) (a : Tr F H (own fp) F1 H1 O1) (h : ∀ c, own fp1 c → O1 c) : TO G F1 H1 fp1 p v d where
  r := t.r.mono a.ff fun c z o => a.fr c o (t.dj c z)
  nd := t.nd
  sep := fun c z => by
    cases r : F1 c with
    | none => rfl
    | some o =>
      obtain ⟨u, hu⟩ := t.r.there c z
      rcases a.fz c o r with q | q | q
      · rw [t.sep c z] at q; cases q
      · exact absurd q (t.dj c z)
      · rw [hu] at q; cases q
  dj := fun c z w => by
    obtain ⟨u, hu⟩ := t.r.there c z
    rcases a.ow c (h c w) with q | q
    · exact t.dj c z q
    · rw [hu] at q; cases q
theorem TOs.keep (t : TOs G F H fp p vs ds) (a : Tr F H (own fp) F1 H1 O1) (h : ∀ c, own fp1 c → O1 c) : TOs G F1 H1 fp1 p vs ds where
  r := t.r.mono a.ff fun c z o => a.fr c o (t.dj c z)
  nd := t.nd
  sep := fun c z => by
    cases r : F1 c with
    | none => rfl
    | some o =>
      obtain ⟨u, hu⟩ := t.r.there c z
      rcases a.fz c o r with q | q | q
      · rw [t.sep c z] at q; cases q
      · exact absurd q (t.dj c z)
      · rw [hu] at q; cases q
  dj := fun c z w => by
    obtain ⟨u, hu⟩ := t.r.there c z
    rcases a.ow c (h c w) with q | q
    · exact t.dj c z q
    · rw [hu] at q; cases q
/-- what is not held either -/
theorem TO.apart (t : TO G F H fp p v d) (a : Tr F H (own fp) F1 H1 O1) (h : ∀ c, c ∈ q → O1 c) : ∀ c, c ∈ p → c ∈ q → False := fun c z w => by
  obtain ⟨u, hu⟩ := t.r.there c z
  rcases a.ow c (h c w) with r | r
  · exact t.dj c z r
  · rw [hu] at r; cases r
theorem TOs.apart (t : TOs G F H fp p vs ds) (a : Tr F H (own fp) F1 H1 O1) (h : ∀ c, c ∈ q → O1 c) : ∀ c, c ∈ p → c ∈ q → False := fun c z w => by
  obtain ⟨u, hu⟩ := t.r.there c z
  rcases a.ow c (h c w) with r | r
  · exact t.dj c z r
  · rw [hu] at r; cases r
/-- shared heap with one's own too -/
def addF (F H : Hp) (p : List Addr) : Hp := fun a => if a ∈ p then H a else F a
theorem addF_le (hs : ∀ a, a ∈ p → F a = none) : ∀ a o, F a = some o → addF F H p a = some o := fun a o h => by
  unfold addF
  split
  · rename_i z; rw [hs a z] at h; cases h
  · exact h
theorem addF_at : ∀ a, a ∈ p → ∀ o, H a = some o → addF F H p a = some o := fun a z o h => by
  unfold addF; rw [if_pos z]; exact h
theorem addF_sub (hF : ∀ a o, F a = some o → H a = some o) : ∀ a o, addF F H p a = some o → H a = some o := fun a o h => by
  unfold addF at h
  split at h
  · exact h
  · exact hF a o h
/-- a value becomes shared: the state then -/
theorem SO.share (s : SO G F H fp σ e) (hp : ∀ a, a ∈ p → F a = none) (hd : ∀ a, a ∈ p → ¬ own fp a) : SO G (addF F H p) H fp σ e where
  sub := addF_sub s.sub
  rep := fun i d h => by
    obtain ⟨v, h1, r⟩ := s.rep i d h
    exact ⟨v, h1, r.mono (addF_le hp) fun _ _ _ z => z⟩
  nd := s.nd
  dj := s.dj
  sep := fun i a z => by
    unfold addF
    rw [if_neg fun w => hd a w ⟨i, z⟩]
    exact s.sep i a z
  th := s.th
  len := s.len
theorem TO.share (t : TO G F H fp p v d) : RO G (addF F H p) H [] v (frz d) := t.r.frz (addF_le t.sep) fun a z o => addF_at a z o
theorem Tr.share (hp : ∀ a, a ∈ p → F a = none) : Tr F H (fun a => O a ∨ a ∈ p) (addF F H p) H O where
  ff := addF_le hp
  fr := fun _ _ _ h => h
  ow := fun _ h => .inl (.inl h)
  fz := fun a o h => by
    unfold addF at h
    split at h
    · rename_i z; exact .inr (.inl (.inr z))
    · exact .inl h
theorem TO.z {v : V} {d : D} (r : RO G F H [] v d) : TO G F H fp [] v d := ⟨r, List.nodup_nil, fun _ z => (nomatch z), fun _ z => (nomatch z)⟩
theorem TOs.z {v : List V} {d : List D} (r : ROs G F H [] v d) : TOs G F H fp [] v d := ⟨r, List.nodup_nil, fun _ z => (nomatch z), fun _ z => (nomatch z)⟩

/-! ### slots -/
/-- a slot's content becomes shared -/
theorem SO.shareAt {i : Nat} {d : D} (s : SO G F H fp σ e) (h : e[i]? = some (some d)) : SO G (addF F H (fp i)) H (fun j => if j = i then [] else fp j) σ (e.set i (some (frz d))) where
  sub := addF_sub s.sub
  rep := fun j x hx => by
    by_cases hj : j = i
    · subst hj
      have hi : j < e.length := (List.getElem?_eq_some_iff.mp h).1
      rw [List.getElem?_set_self hi] at hx
      cases hx
      obtain ⟨v, h1, r⟩ := s.rep j d h
      refine ⟨v, h1, ?_⟩
      rw [if_pos rfl]
      exact r.frz (addF_le (s.sep j)) fun a z o => addF_at a z o
    · rw [List.getElem?_set_ne (Ne.symm hj)] at hx
      obtain ⟨v, h1, r⟩ := s.rep j x hx
      refine ⟨v, h1, ?_⟩
      rw [if_neg hj]
      exact r.mono (addF_le (s.sep i)) fun _ _ _ z => z
  nd := fun j => by
    split
    · exact List.nodup_nil
    · exact s.nd j
  dj := fun j k a h1 h2 => by
    split at h1
    · cases h1
    · split at h2
      · cases h2
      · exact s.dj j k a h1 h2
  sep := fun j a z => by
    split at z
    · cases z
    · rename_i hj
      unfold addF
      rw [if_neg fun w => hj (s.dj j i a z w)]
      exact s.sep j a z
  th := fun j a z => by
    split at z
    · cases z
    · exact s.th j a z
  len := by rw [List.length_set]; exact s.len
theorem Tr.shareAt {i : Nat} (hp : ∀ a, a ∈ fp i → F a = none) : Tr F H (own fp) (addF F H (fp i)) H (own fun j => if j = i then [] else fp j) where
  ff := addF_le hp
  fr := fun _ _ _ h => h
  ow := fun a ⟨j, h⟩ => by
    dsimp only at h
    split at h
    · cases h
    · exact .inl ⟨j, h⟩
  fz := fun a o h => by
    unfold addF at h
    split at h
    · rename_i z; exact .inr (.inl ⟨i, z⟩)
    · exact .inl h
/-- a slot is forgotten -/
theorem SO.forget {i : Nat} (s : SO G F H fp σ e) : SO G F H (fun j => if j = i then [] else fp j) σ (e.set i none) where
  sub := s.sub
  rep := fun j x hx => by
    by_cases hj : j = i
    · subst hj
      by_cases hi : j < e.length
      · rw [List.getElem?_set_self hi] at hx; cases hx
      · rw [List.getElem?_eq_none (by simpa using hi)] at hx; cases hx
    · rw [List.getElem?_set_ne (Ne.symm hj)] at hx
      obtain ⟨v, h1, r⟩ := s.rep j x hx
      exact ⟨v, h1, by rw [if_neg hj]; exact r⟩
  nd := fun j => by
    split
    · exact List.nodup_nil
    · exact s.nd j
  dj := fun j k a h1 h2 => by
    split at h1
    · cases h1
    · split at h2
      · cases h2
      · exact s.dj j k a h1 h2
  sep := fun j a z => by
    split at z
    · cases z
    · exact s.sep j a z
  th := fun j a z => by
    split at z
    · cases z
    · exact s.th j a z
  len := by rw [List.length_set]; exact s.len
/-- .. and handed on -/
theorem SO.take {i : Nat} {d : D} (s : SO G F H fp σ e) (h : e[i]? = some (some d)) : ∃ v, σ[i]? = some (some v) ∧ TO G F H (fun j => if j = i then [] else fp j) (fp i) v d := by
  obtain ⟨v, h1, r⟩ := s.rep i d h
  refine ⟨v, h1, r, s.nd i, s.sep i, fun a z ⟨j, w⟩ => ?_⟩
  dsimp only at w
  split at w
  · cases w
  · rename_i hj
    exact hj (s.dj j i a w z)
theorem own_take {i : Nat} : ∀ a, (own (fun j => if j = i then [] else fp j) a ∨ a ∈ fp i) → own fp a := fun a h => by
  rcases h with ⟨j, h⟩ | h
  · dsimp only at h
    split at h
    · cases h
    · exact ⟨j, h⟩
  · exact ⟨i, h⟩
/-- a value is stored in a slot -/
theorem SO.store {i : Nat} (s : SO G F H fp σ e) (t : TO G F H fp p v d) : SO G F H (fun j => if j = i then p else fp j) (σ.set i (some v)) (e.set i (some d)) where
  sub := s.sub
  rep := fun j x hx => by
    by_cases hj : j = i
    · subst hj
      have hl : j < e.length := by
        have := (List.getElem?_eq_some_iff.mp hx).1
        simpa using this
      rw [List.getElem?_set_self hl] at hx
      cases hx
      exact ⟨v, List.getElem?_set_self (by rw [s.len]; exact hl), by rw [if_pos rfl]; exact t.r⟩
    · rw [List.getElem?_set_ne (Ne.symm hj)] at hx
      obtain ⟨w, h1, r⟩ := s.rep j x hx
      exact ⟨w, by rw [List.getElem?_set_ne (Ne.symm hj)]; exact h1, by rw [if_neg hj]; exact r⟩
  nd := fun j => by
    split
    · exact t.nd
    · exact s.nd j
  dj := fun j k a h1 h2 => by
    split at h1
    · rename_i hj
      split at h2
      · rename_i hk; rw [hj, hk]
      · exact absurd ⟨k, h2⟩ (t.dj a h1)
    · split at h2
      · exact absurd ⟨j, h1⟩ (t.dj a h2)
      · exact s.dj j k a h1 h2
  sep := fun j a z => by
    split at z
    · exact t.sep a z
    · exact s.sep j a z
  th := fun j a z => by
    split at z
    · exact t.r.there a z
    · exact s.th j a z
  len := by rw [List.length_set, List.length_set]; exact s.len
theorem own_store {i : Nat} : ∀ a, own (fun j => if j = i then p else fp j) a → own fp a ∨ a ∈ p := fun a ⟨j, h⟩ => by
  dsimp only at h
  split at h
  · exact .inr h
  · exact .inl ⟨j, h⟩
end

/-! ### readings -/
abbrev gOf (X : Cx) (g : GF) : GI := ⟨g, X.K⟩
def RdE (G : GI) (W : WX) (m : ME) : TE := fun σ H Q => ∃ F fp e, SO G F H fp σ e ∧ match m e with
  | .ok d e' => ∀ v F' H' fp' p, SO G F' H' fp' σ e' → TO G F' H' fp' p v d → Tr F H (own fp) F' H' (fun a => own fp' a ∨ a ∈ p) → Q v H'
  | .ex c d e' => ∀ dx v F' H' fp' p, SO G F' H' fp' σ e' → TO G F' H' fp' p v d → Tr F H (own fp) F' H' (fun a => own fp' a ∨ a ∈ p) → H' dx = some (.xd [(G.xn c, v)]) → W (.ref (G.ca c)) (some dx) σ H'
  | .no => False
/-- .. its value shared -/
def RdZ (G : GI) (W : WX) (m : ME) : TE := fun σ H Q => ∃ F fp e, SO G F H fp σ e ∧ match m e with
  | .ok d e' => ∀ v F' H' fp', SO G F' H' fp' σ e' → RO G F' H' [] v (frz d) → Tr F H (own fp) F' H' (own fp') → Q v H'
  | .ex c d e' => ∀ dx v F' H' fp' p, SO G F' H' fp' σ e' → TO G F' H' fp' p v d → Tr F H (own fp) F' H' (fun a => own fp' a ∨ a ∈ p) → H' dx = some (.xd [(G.xn c, v)]) → W (.ref (G.ca c)) (some dx) σ H'
  | .no => False
theorem RdZ.to {G : GI} {W : WX} {m : ME} {σ : L2.St} {H : Hp} {Q : VK} (h : RdZ G W m σ H Q) : RdE G W m σ H Q := by
  obtain ⟨F, fp, e, s, h⟩ := h
  refine ⟨F, fp, e, s, ?_⟩
  cases q : m e with
  | ok d e' =>
    rw [q] at h
    intro v F' H' fp' p s' t tr
    exact h v (addF F' H' p) H' fp' (s'.share t.sep t.dj) t.share (tr.trans (Tr.share t.sep))
  | ex c d e' => rw [q] at h; exact h
  | no => rw [q] at h; exact h
theorem PE.imp {X : Cx} {e : Expr} {t u : TE} (h : PE X e t) (i : ∀ σ H Q, u σ H Q → t σ H Q) : PE X e u := ⟨fun pins s σ H Q I q => h.run pins s σ H Q I (i σ H Q q)⟩
theorem PT.imp {X : Cx} {e : Expr} {t u : TT} (h : PT X e t) (i : ∀ σ H Q, u σ H Q → t σ H Q) : PT X e u := ⟨fun pins s σ H Q I q => h.run pins s σ H Q I (i σ H Q q)⟩
theorem PA.imp {X : Cx} {e : List Expr} {t u : TA} (h : PA X e t) (i : ∀ σ H Q, u σ H Q → t σ H Q) : PA X e u := ⟨fun pos pins s σ H Q I q => h.run pos pins s σ H Q I (i σ H Q q)⟩
theorem PS.imp {X : Cx} {e : Stmt} {t u : TS} (h : PS X e t) (i : ∀ D σ H, u D σ H → t D σ H) : PS X e u := ⟨fun pins s σ H D I q => h.run pins s σ H D I (i D σ H q)⟩
theorem PSs.imp {X : Cx} {e : List Stmt} {t u : TS} (h : PSs X e t) (i : ∀ D σ H, u D σ H → t D σ H) : PSs X e u := ⟨fun pins s σ H D I q => h.run pins s σ H D I (i D σ H q)⟩
abbrev SE (X : Cx) (g : GF) (W : WX) (e : Expr) (m : ME) : Prop := PE X e (RdE (gOf X g) W m)
abbrev SZ (X : Cx) (g : GF) (W : WX) (e : Expr) (m : ME) : Prop := PE X e (RdZ (gOf X g) W m)
theorem SE.z {X : Cx} {g : GF} {W : WX} {e : Expr} {m : ME} (h : SE X g W e m) : SZ X g W e m := PE.imp h fun _ _ _ q => q.to

def RE.bind (r : RE) (k : D → DEnv → RE) : RE := match r with
  | .ok d e => k d e
  | .ex c d e => .ex c d e
  | .no => .no
@[simp] theorem RE.bind_ok {d e k} : (RE.ok d e).bind k = k d e := rfl
@[simp] theorem RE.bind_ex {c d e k} : (RE.ex c d e).bind k = .ex c d e := rfl
@[simp] theorem RE.bind_no {k} : RE.no.bind k = .no := rfl
def RE.of (o : Option D) (e : DEnv) : RE := match o with
  | some d => .ok d e
  | none => .no
@[simp] theorem RE.of_some {d e} : RE.of (some d) e = .ok d e := rfl
@[simp] theorem RE.of_none {e} : RE.of none e = .no := rfl
end EV

/-! EvC: operators by plain data, their readings. -/
namespace EV
open PySem PySem.Spec PyProof.Rows L2

/-! ### plain operators -/
def LIM : Nat := 1000000
theorem LIM_line {n : Nat} (h : n ≤ LIM) : n ≤ sizeLine := by rw [sizeLine_eq]; unfold LIM at h; omega
theorem LIM_lineS {n : Nat} (h : n ≤ LIM) : n < sizeLine := by rw [sizeLine_eq]; unfold LIM at h; omega
def mulOk (i j : Int) : Bool := Nat.ble i.natAbs 18446744073709551615 || (Nat.ble j.natAbs 18446744073709551615 || decide (i.natAbs.log2 + j.natAbs.log2 < 1000000))
def divOk (j : Int) : Bool := decide (j.natAbs < 1073741824) || decide (j.natAbs.log2 < 9000)
def addD : D → D → Option D
  | .int i, .int j => some (.int (i + j))
  | .lst _ xs, .lst _ ys => if xs.length + ys.length ≤ LIM then some (.lst true (xs ++ ys)) else none
  | .tup xs, .tup ys => if xs.length + ys.length ≤ LIM then some (.tup (xs ++ ys)) else none
  | _, _ => none
def subD : D → D → Option D
  | .int i, .int j => some (.int (i - j))
  | _, _ => none
def mulD : D → D → Option D
  | .int i, .int j => if mulOk i j then some (.int (i * j)) else none
  | .lst _ xs, .int k => if Nat.ble k.natAbs 9223372036854775807 = true ∧ xs.length * k.toNat ≤ LIM then some (.lst true (List.replicate k.toNat xs).flatten) else none
  | _, _ => none
def fdivD : D → D → Option D
  | .int i, .int j => if 0 < j then (if divOk j then some (.int (i / j)) else none) else if j = 0 then none else if divOk j then some (.int (i.fdiv j)) else none
  | _, _ => none
def modD : D → D → Option D
  | .int i, .int j => if 0 < j then some (.int (i % j)) else if j = 0 then none else some (.int (i.fmod j))
  | _, _ => none
def powD : D → D → Option D
  | .int i, .int j => if 0 ≤ j ∧ Nat.ble j.natAbs 1000000 = true ∧ Nat.ble i.natAbs 18446744073709551615 = true then some (.int (i ^ j.toNat)) else none
  | _, _ => none
def negD : D → Option D
  | .int i => some (.int (-i))
  | _ => none
def cmpD (f : Int → Int → Bool) : D → D → Option D
  | .int i, .int j => some (.bl (f i j))
  | _, _ => none
def isN : D → Bool
  | .non => true
  | _ => false
def isB (b : Bool) : D → Bool
  | .bl c => c == b
  | _ => false
/-! equality of data -/
mutual
def eqOk : Nat → D → Bool
  | 0, _ => false
  | n + 1, .tup xs => eqOks n xs
  | n + 1, .lst _ xs => eqOks n xs
  | n + 1, .str s => PyData.strOk s
  | n + 1, .non => true
  | n + 1, .bl _ => true
  | n + 1, .int _ => true
  | n + 1, _ => false
def eqOks : Nat → List D → Bool
  | _, [] => true
  | n, d :: ds => eqOk n d && eqOks n ds
end
mutual
def pd : D → PyData
  | .non => .none
  | .bl b => .bool b
  | .int i => .int i
  | .str s => .str s
  | .tup xs => .tuple (pds xs)
  | .lst _ xs => .list (pds xs)
  | _ => .none
def pds : List D → List PyData
  | [] => []
  | d :: ds => pd d :: pds ds
end
mutual
def eqvD : D → D → Bool
  | .non, .non => true
  | .bl a, .bl b => a == b
  | .bl a, .int j => (if a then 1 else 0) == j
  | .int i, .bl b => i == (if b then 1 else 0)
  | .int i, .int j => i == j
  | .str x, .str y => x == y
  | .lst _ xs, .lst _ ys => eqvDs xs ys
  | .tup xs, .tup ys => eqvDs xs ys
  | _, _ => false
def eqvDs : List D → List D → Bool
  | [], [] => true
  | x :: xs, y :: ys => eqvD x y && eqvDs xs ys
  | _, _ => false
end
def eqD (a b : D) : Option D := if eqOk 60 a && eqOk 60 b then some (.bl (eqvD a b)) else none
def neD (a b : D) : Option D := if eqOk 60 a && eqOk 60 b then some (.bl (!eqvD a b)) else none
def keyD : D → Option Key
  | .int i => some (.inl i)
  | .str s => some (.inr s)
  | _ => none
def keysD : List D → Option (List Key)
  | [] => some []
  | d :: ds => (keyD d).bind fun k => (keysD ds).map (k :: ·)
def getK {κ : Type} [DecidableEq κ] (kvs : List (κ × D)) (k : κ) : Option D := (kvs.find? fun kv => decide (kv.1 = k)).map (·.2)
def inD : D → D → Option D
  | a, .lst _ ys => if eqOk 60 a && eqOks 59 ys then some (.bl (ys.any fun z => eqvD z a)) else none
  | a, .dk _ kvs => (keyD a).map fun k => .bl (getK kvs k).isSome
  | .tup ks, .dt _ kvs => (keysD ks).map fun k => .bl (getK kvs k).isSome
  | a, .tup ys => match a with
    | .int i => if ys.all (fun y => match y with | .int _ => true | _ => false) then some (.bl (ys.any fun y => eqvD y (.int i))) else none
    | _ => none
  | _, _ => none
def notD : D → Option D
  | .bl b => some (.bl (!b))
  | _ => none
def ixD : D → D → Option D
  | .tup xs, .int i => atI xs i
  | .lst _ xs, .int i => atI xs i
  | .scr ns, .int i => (atI ns i).map .int
  | .dk _ kvs, a => (keyD a).bind fun k => getK kvs k
  | .dt _ kvs, .tup ks => (keysD ks).bind fun k => getK kvs k
  | _, _ => none
def lenD : D → Option D
  | .tup xs => some (.int xs.length)
  | .lst _ xs => some (.int xs.length)
  | .scr xs => some (.int xs.length)
  | _ => none
def absD : D → Option D
  | .int i => some (.int (if i < 0 then -i else i))
  | _ => none
def intD : D → Option D
  | .int i => some (.int i)
  | .bl k => some (.int (if k then 1 else 0))
  | _ => none
def max2D : D → D → Option D
  | .int i, .int j => some (.int (if j > i then j else i))
  | _, _ => none
def min2D : D → D → Option D
  | .int i, .int j => some (.int (if j < i then j else i))
  | _, _ => none
def tupleD : D → Option D
  | .tup xs => some (.tup xs)
  | .lst _ xs => some (.tup xs)
  | _ => none
def listD : D → Option D
  | .tup xs => some (.lst true xs)
  | .lst _ xs => some (.lst true xs)
  | .scr xs => some (.lst true (xs.map .int))
  | _ => none
def intsD : List D → Option (List Int)
  | [] => some []
  | .int i :: ds => (intsD ds).map (i :: ·)
  | _ :: _ => none
def blsD : List D → Option (List Bool)
  | [] => some []
  | .bl i :: ds => (blsD ds).map (i :: ·)
  | _ :: _ => none
def sumD : D → Option D
  | .lst _ xs => (intsD xs).map fun ns => .int ns.sum
  | .tup xs => none
  | _ => none
def maxL : List Int → Int
  | [] => 0
  | [a] => a
  | a :: b :: r => if maxL (b :: r) < a then a else maxL (b :: r)
def minL : List Int → Int
  | [] => 0
  | [a] => a
  | a :: b :: r => if a < minL (b :: r) then a else minL (b :: r)
def max1D : D → Option D
  | .lst _ xs => (intsD xs).bind fun ns => if 0 < ns.length then some (.int (maxL ns)) else none
  | _ => none
def min1D : D → Option D
  | .lst _ xs => (intsD xs).bind fun ns => if 0 < ns.length then some (.int (minL ns)) else none
  | _ => none
def allD : D → Option D
  | .lst _ xs => (blsD xs).map fun bs => .bl (bs.all id)
  | _ => none
def anyD : D → Option D
  | .lst _ xs => (blsD xs).map fun bs => .bl (bs.any id)
  | _ => none
inductive Ty where
  | int | bool | tuple | list | str
def isiD : Ty → D → Option Bool
  | .int, .int _ => some true
  | .int, .bl _ => some true
  | .bool, .bl _ => some true
  | .tuple, .tup _ => some true
  | .list, .lst _ _ => some true
  | .str, .str _ => some true
  | _, .non => some false
  | _, .bl _ => some false
  | _, .int _ => some false
  | _, .str _ => some false
  | _, .tup _ => some false
  | _, .lst _ _ => some false
  | _, _ => none
def truD : D → Option Bool
  | .non => some false
  | .bl b => some b
  | .int i => some (i != 0)
  | .tup xs => some (!xs.isEmpty)
  | .lst _ xs => some (!xs.isEmpty)
  | _ => none

/-! ### what a pure operator hands on -/
structure KR (G : GI) (F H : Hp) (d : D) (Q : VK) : Prop where
  go : ∀ v F' H' p, (∀ a o, F a = some o → F' a = some o) → (∀ a o, H a = some o → H' a = some o) → (∀ a o, F' a = some o → H' a = some o) → (∀ a o, F' a = some o → F a = some o ∨ H a = none) →
    RO G F' H' p v d → p.Nodup → (∀ a, a ∈ p → F' a = none ∧ H a = none) → Q v H'
section
variable {G : GI} {F H F' H' : Hp} {d : D} {Q : VK} {fp : Nat → List Addr} {σ : L2.St} {e : DEnv} {W : WX}
theorem KR.z (k : KR G F H d Q) (s : ∀ a o, F a = some o → H a = some o) {v : V} (r : RO G F H [] v d) : Q v H :=
  k.go v F H [] (fun _ _ h => h) (fun _ _ h => h) s (fun _ _ h => .inl h) r List.nodup_nil fun _ z => nomatch z
theorem upd_le {H : Hp} {a : Addr} {o : HO} (h : H a = none) : ∀ b u, H b = some u → upd H a o b = some u := fun b u e => by rw [upd_ne (ne_of_none e h)]; exact e
/-- a new tuple of shared data -/
theorem KR.tup {ds : List D} (k : KR G F H (.tup ds) Q) (s : ∀ a o, F a = some o → H a = some o) {vs : List V} (r : ROs G F H [] vs ds) {a : Addr} (h : H a = none) : Q (.ref a) (upd H a (.tup vs)) := by
  have hF : F a = none := by
    cases q : F a with
    | none => rfl
    | some o => rw [s a o q] at h; cases h
  refine k.go _ (upd F a (.tup vs)) _ [] (upd_le hF) (upd_le h) (fun b o q => ?_) (fun b o q => ?_) (.tup upd_same (r.monoZ (upd_le hF))) List.nodup_nil fun _ z => nomatch z
  · by_cases e : b = a
    · subst e; rw [upd_same] at q ⊢; exact q
    · rw [upd_ne e] at q ⊢; exact s b o q
  · by_cases e : b = a
    · subst e; exact .inr h
    · rw [upd_ne e] at q; exact .inl q
/-- a new list of shared data -/
theorem KR.lst {ds : List D} (k : KR G F H (.lst true ds) Q) (s : ∀ a o, F a = some o → H a = some o) {vs : List V} (r : ROs G F H [] vs ds) {a : Addr} (h : H a = none) : Q (.ref a) (upd H a (.lst vs)) := by
  have hF : F a = none := by
    cases q : F a with
    | none => rfl
    | some o => rw [s a o q] at h; cases h
  refine k.go _ F _ [a] (fun _ _ h => h) (upd_le h) (fun b o q => upd_le h b o (s b o q)) (fun b o q => .inl q) (RO.lo upd_same (r.monoZ fun _ _ h => h)) (by simp) fun b z => ?_
  have e : b = a := by simpa using z
  subst e
  exact ⟨hF, h⟩
theorem SO.grow (s : SO G F H fp σ e) (h1 : ∀ a o, F a = some o → F' a = some o) (h2 : ∀ a o, H a = some o → H' a = some o) (h3 : ∀ a o, F' a = some o → H' a = some o) (h4 : ∀ a o, F' a = some o → F a = some o ∨ H a = none) : SO G F' H' fp σ e where
  sub := h3
  rep := fun i d h => by
    obtain ⟨v, q, r⟩ := s.rep i d h
    exact ⟨v, q, r.mono h1 fun a _ o z => h2 a o z⟩
  nd := s.nd
  dj := s.dj
  sep := fun i a z => by
    cases q : F' a with
    | none => rfl
    | some o =>
      obtain ⟨u, hu⟩ := s.th i a z
      rcases h4 a o q with w | w
      · rw [s.sep i a z] at w; cases w
      · rw [hu] at w; cases w
  th := fun i a z => by
    obtain ⟨u, hu⟩ := s.th i a z
    exact ⟨u, h2 a u hu⟩
  len := s.len
/-- from a state's wish to a pure operator's -/
theorem SO.kr (s : SO G F H fp σ e) (k : ∀ v F' H' fp' p, SO G F' H' fp' σ e → TO G F' H' fp' p v d → Tr F H (own fp) F' H' (fun a => own fp' a ∨ a ∈ p) → Q v H') : KR G F H d Q := by
  refine ⟨fun v F' H' p h1 h2 h3 h4 r nd np => ?_⟩
  refine k v F' H' fp p (s.grow h1 h2 h3 h4) ⟨r, nd, fun a z => (np a z).1, fun a z ⟨i, w⟩ => ?_⟩ ⟨h1, fun a o _ => h2 a o, fun a z => ?_, fun a o z => (h4 a o z).imp id .inr⟩
  · obtain ⟨u, hu⟩ := s.th i a w
    rw [(np a z).2] at hu; cases hu
  · exact z.imp id fun z => (np a z).2
end

/-! ### a view: shared data, or a list or dict of one's own that is only looked at -/
inductive RB (G : GI) (F H : Hp) : V → D → Prop
  | z {v : V} {d : D} : RO G F H [] v d → RB G F H v d
  | l {a : Addr} {vs : List V} {ds : List D} : H a = some (.lst vs) → ROs G F H [] vs ds → RB G F H (.ref a) (.lst false ds)
  | k {a : Addr} {kvs : List (Key × V)} {kds : List (Key × D)} : H a = some (.dK kvs) → kvs.map (·.1) = kds.map (·.1) → ROs G F H [] (kvs.map (·.2)) (kds.map (·.2)) → RB G F H (.ref a) (.dk false kds)
  | t {a : Addr} {kvs : List (List Key × V)} {kds : List (List Key × D)} : H a = some (.dT kvs) → kvs.map (·.1) = kds.map (·.1) → ROs G F H [] (kvs.map (·.2)) (kds.map (·.2)) → RB G F H (.ref a) (.dt false kds)
/-- may it be looked at as it is -/
def vwOk : D → Bool
  | .lst _ xs => fzs xs
  | .dk _ _ => true
  | .dt _ _ => true
  | d => fz d
def vw : D → D
  | .lst _ xs => .lst false xs
  | .dk _ kvs => .dk false kvs
  | .dt _ kvs => .dt false kvs
  | d => d
theorem ROs.toZ {G : GI} {F H : Hp} {p : List Addr} {vs : List V} {ds : List D} (r : ROs G F H p vs ds) (h : fzs ds = true) : ROs G F H [] vs ds := r.cast (r.nil_of_fz h)
theorem RB.of {G : GI} {F H : Hp} {p : List Addr} {v : V} {d : D} (r : RO G F H p v d) (h : vwOk d = true) : RB G F H v (vw d) := by
  cases r with
  | lz e r => exact .z (.lz e r)
  | lo e r => exact .l e (r.toZ h)
  | dkz e k r => exact .z (.dkz e k r)
  | dko e k r => exact .k e k r
  | dtz e k r => exact .z (.dtz e k r)
  | dto e k r => exact .t e k r
  | tup e r => exact .z (.tup e (r.toZ h))
  | non => exact .z .non
  | bl b => exact .z (.bl b)
  | int b => exact .z (.int b)
  | str b => exact .z (.str b)
  | fn b => exact .z (.fn b)
  | scr e => exact .z (.scr e)
theorem RB.mono {G : GI} {F F' H H' : Hp} (hF : ∀ a o, F a = some o → F' a = some o) (hH : ∀ a o, H a = some o → H' a = some o) {v : V} {d : D} (r : RB G F H v d) : RB G F' H' v d := by
  cases r with
  | z r => exact .z (r.monoZ hF)
  | l e r => exact .l (hH _ _ e) (r.monoZ hF)
  | k e q r => exact .k (hH _ _ e) q (r.monoZ hF)
  | t e q r => exact .t (hH _ _ e) q (r.monoZ hF)
inductive Op where
  | v (i : Nat) | e (m : ME)
inductive PV where
  | d (d : D) | v (i : Nat)
inductive RP where
  | ok (p : PV) (e : DEnv) | ex (c : Nat) (d : D) (e : DEnv) | no
def runV (i : Nat) (en : DEnv) : RP := match en[i]? with
    | some (some _) => .ok (.v i) en
    | _ => .no
def runE (m : ME) (en : DEnv) : RP := match m en with
    | .ok x e1 => .ok (.d (frz x)) e1
    | .ex c x e1 => .ex c x e1
    | .no => .no
def Op.run : Op → DEnv → RP
  | .v i => runV i
  | .e m => runE m
def RP.bind (r : RP) (k : PV → DEnv → RE) : RE := match r with
  | .ok p e => k p e
  | .ex c d e => .ex c d e
  | .no => .no
@[simp] theorem RP.bind_ok {d e k} : (RP.ok d e).bind k = k d e := rfl
@[simp] theorem RP.bind_ex {c d e k} : (RP.ex c d e).bind k = .ex c d e := rfl
@[simp] theorem RP.bind_no {k} : RP.no.bind k = .no := rfl
def seeAt (i : Nat) (e : DEnv) (k : D → DEnv → RE) : RE := match e[i]? with
  | some (some d) => if vwOk d = true then k (vw d) e else k (frz d) (e.set i (some (frz d)))
  | _ => .no
def PV.see : PV → DEnv → (D → DEnv → RE) → RE
  | .d x, en, k => k x en
  | .v i, en, k => seeAt i en k
def RdO (G : GI) (W : WX) : Op → TE
  | .v i => tVar i
  | .e m => RdZ G W m
def PVis (G : GI) (F H : Hp) (σ : L2.St) : PV → V → Prop
  | .d dd, x => RO G F H [] x dd
  | .v i, x => σ[i]? = some (some x)
section
variable {G : GI} {F H F' H' : Hp} {fp : Nat → List Addr} {σ : L2.St} {e : DEnv} {W : WX} {Q : VK}
theorem PVis.mono {p : PV} {x : V} (hF : ∀ a o, F a = some o → F' a = some o) (h : PVis G F H σ p x) : PVis G F' H' σ p x := by
  cases p with
  | d d => exact RO.monoZ hF h
  | v i => exact h
/-- what is asked of the ways out by an exception -/
def XOut (G : GI) (W : WX) (σ : L2.St) (F H : Hp) (fp : Nat → List Addr) (c : Nat) (d : D) (e' : DEnv) : Prop :=
  ∀ dx v F' H' fp' p, SO G F' H' fp' σ e' → TO G F' H' fp' p v d → Tr F H (own fp) F' H' (fun a => own fp' a ∨ a ∈ p) → H' dx = some (.xd [(G.xn c, v)]) → W (.ref (G.ca c)) (some dx) σ H'
theorem XOut.trans {F1 H1 : Hp} {fp1 : Nat → List Addr} {c : Nat} {d : D} {e' : DEnv} (h : XOut G W σ F H fp c d e') (t : Tr F H (own fp) F1 H1 (own fp1)) : XOut G W σ F1 H1 fp1 c d e' :=
  fun dx v F' H' fp' p s' t' tr hx => h dx v F' H' fp' p s' t' (t.trans tr) hx
theorem RdO.step (o : Op) (s : SO G F H fp σ e) (k : match o.run e with
    | .ok p e1 => ∀ x F1 H1 fp1, SO G F1 H1 fp1 σ e1 → Tr F H (own fp) F1 H1 (own fp1) → PVis G F1 H1 σ p x → Q x H1
    | .ex c d e1 => XOut G W σ F H fp c d e1
    | .no => False) : RdO G W o σ H Q := by
  cases o with
  | v i =>
    rw [show (Op.v i).run e = runV i e from rfl] at k
    unfold runV at k
    cases q : e[i]? with
    | none => rw [q] at k; exact k.elim
    | some o =>
      cases o with
      | none => rw [q] at k; exact k.elim
      | some d =>
        rw [q] at k
        obtain ⟨v, hv, _⟩ := s.rep i d q
        exact ⟨v, hv, k v F H fp s Tr.refl hv⟩
  | e m =>
    refine ⟨F, fp, e, s, ?_⟩
    rw [show (Op.e m).run e = runE m e from rfl] at k
    unfold runE at k
    cases q : m e with
    | ok d e1 =>
      rw [q] at k
      exact fun v F1 H1 fp1 s1 r1 tr1 => k v F1 H1 fp1 s1 tr1 r1
    | ex c d e1 => rw [q] at k; exact k
    | no => rw [q] at k; exact k
theorem PV.see_ok {p : PV} {x : V} {k : D → DEnv → RE} {R : RE} (s : SO G F H fp σ e) (h : PVis G F H σ p x) (q : p.see e k = R) (hR : R ≠ .no) :
    ∃ d e' F' fp', SO G F' H fp' σ e' ∧ RB G F' H x d ∧ Tr F H (own fp) F' H (own fp') ∧ k d e' = R := by
  cases p with
  | d d => exact ⟨d, e, F, fp, s, .z h, Tr.refl, q⟩
  | v i =>
    have q : seeAt i e k = R := q
    unfold seeAt at q
    cases q2 : e[i]? with
    | none => rw [q2] at q; exact absurd q.symm hR
    | some o =>
      cases o with
      | none => rw [q2] at q; exact absurd q.symm hR
      | some d =>
        rw [q2] at q
        obtain ⟨v, hv, r⟩ := s.rep i d q2
        have hv2 : σ[i]? = some (some x) := h
        rw [hv] at hv2
        cases hv2
        simp only at q
        split at q
        · rename_i hw
          exact ⟨_, _, F, fp, s, RB.of r hw, Tr.refl, q⟩
        · have s2 := s.shareAt q2
          exact ⟨_, _, _, _, s2, .z (r.frz (addF_le (s.sep i)) fun a z o => addF_at a z o), Tr.shareAt (s.sep i), q⟩
end
def mOp1 (f : D → Option D) (oa : Op) : ME := fun e => (oa.run e).bind fun p e1 => p.see e1 fun d e2 => RE.of (f d) e2
def mOp2 (f : D → D → Option D) (oa ob : Op) : ME := fun e => (oa.run e).bind fun p e1 => (ob.run e1).bind fun q e2 => p.see e2 fun d e3 => q.see e3 fun d2 e4 => RE.of (f d d2) e4
section
variable {G : GI} {W : WX} {oa ob : Op} {σ : L2.St} {H : Hp} {Q : VK}
/-- an expression's end -/
def EOut (G : GI) (W : WX) (σ : L2.St) (F H : Hp) (fp : Nat → List Addr) (Q : VK) : RE → Prop
  | .ok d e' => ∀ v F' H' fp' p, SO G F' H' fp' σ e' → TO G F' H' fp' p v d → Tr F H (own fp) F' H' (fun a => own fp' a ∨ a ∈ p) → Q v H'
  | .ex c d e' => XOut G W σ F H fp c d e'
  | .no => False
theorem EOut.trans {F F1 H1 : Hp} {fp fp1 : Nat → List Addr} {r : RE} (h : EOut G W σ F H fp Q r) (t : Tr F H (own fp) F1 H1 (own fp1)) : EOut G W σ F1 H1 fp1 Q r := by
  cases r with
  | ok d e => exact fun v F' H' fp' p s' t' tr => h v F' H' fp' p s' t' (t.trans tr)
  | ex c d e => exact XOut.trans h t
  | no => exact h
theorem EOut.ne {F : Hp} {fp : Nat → List Addr} {r : RE} (h : EOut G W σ F H fp Q r) : r ≠ .no := fun z => by rw [z] at h; exact h
theorem RdE.iff {m : ME} : RdE G W m σ H Q ↔ ∃ F fp e, SO G F H fp σ e ∧ EOut G W σ F H fp Q (m e) := by
  unfold RdE
  constructor
  · rintro ⟨F, fp, e, s, h⟩
    refine ⟨F, fp, e, s, ?_⟩
    cases q : m e with
    | ok d e' => rw [q] at h; exact h
    | ex c d e' => rw [q] at h; exact h
    | no => rw [q] at h; exact h
  · rintro ⟨F, fp, e, s, h⟩
    refine ⟨F, fp, e, s, ?_⟩
    cases q : m e with
    | ok d e' => rw [q] at h; exact h
    | ex c d e' => rw [q] at h; exact h
    | no => rw [q] at h; exact h
theorem rd_op1 {f : D → Option D} {r : V → Hp → VK → Prop} (hr : ∀ F H x d1 d Q, (∀ a o, F a = some o → H a = some o) → RB G F H x d1 → f d1 = some d → KR G F H d Q → r x H Q)
    (h : RdE G W (mOp1 f oa) σ H Q) : RdO G W oa σ H fun x H1 => r x H1 Q := by
  obtain ⟨F, fp, e, s, h⟩ := RdE.iff.mp h
  refine RdO.step oa s ?_
  unfold mOp1 at h
  cases q : oa.run e with
  | ok p e1 =>
    rw [q] at h
    intro x F1 H1 fp1 s1 tr1 v1
    obtain ⟨d1, e2, F2, fp2, s2, b2, tr2, k⟩ := PV.see_ok s1 v1 rfl h.ne
    rw [RP.bind_ok, ← k] at h
    cases q3 : f d1 with
    | none => rw [q3] at h; exact h.elim
    | some d =>
      rw [q3] at h
      exact hr F2 H1 x d1 d Q s2.sub b2 q3 (s2.kr (h.trans (tr1.trans tr2)))
  | ex c d e1 => rw [q] at h; exact h
  | no => rw [q] at h; exact h
theorem rd_op2 {f : D → D → Option D} {r : V → V → Hp → VK → Prop} (hr : ∀ F H x y d1 d2 d Q, (∀ a o, F a = some o → H a = some o) → RB G F H x d1 → RB G F H y d2 → f d1 d2 = some d → KR G F H d Q → r x y H Q)
    (h : RdE G W (mOp2 f oa ob) σ H Q) : RdO G W oa σ H fun x H1 => RdO G W ob σ H1 fun y H2 => r x y H2 Q := by
  obtain ⟨F, fp, e, s, h⟩ := RdE.iff.mp h
  refine RdO.step oa s ?_
  unfold mOp2 at h
  cases q : oa.run e with
  | ok p e1 =>
    rw [q] at h
    intro x F1 H1 fp1 s1 tr1 v1
    rw [RP.bind_ok] at h
    refine RdO.step ob s1 ?_
    cases q2 : ob.run e1 with
    | ok p2 e2 =>
      rw [q2] at h
      intro y F2 H2 fp2 s2 tr2 v2
      rw [RP.bind_ok] at h
      obtain ⟨d1, e3, F3, fp3, s3, b3, tr3, k⟩ := PV.see_ok s2 (v1.mono tr2.ff) rfl h.ne
      rw [← k] at h
      obtain ⟨d2, e4, F4, fp4, s4, b4, tr4, k4⟩ := PV.see_ok s3 (v2.mono tr3.ff) rfl h.ne
      rw [← k4] at h
      cases q3 : f d1 d2 with
      | none => rw [q3] at h; exact h.elim
      | some d =>
        rw [q3] at h
        exact hr F4 H2 x y d1 d2 d Q s4.sub (b3.mono tr4.ff fun _ _ z => z) b4 q3 (s4.kr (h.trans (((tr1.trans tr2).trans tr3).trans tr4)))
    | ex c d e2 => rw [q2] at h; exact XOut.trans h tr1
    | no => rw [q2] at h; exact h
  | ex c d e1 => rw [q] at h; exact h
  | no => rw [q] at h; exact h
end
end EV

/-! EvD: each operator's rule serves its plain reading. -/
namespace EV
open PySem PySem.Spec PyProof.Rows L2
section
variable {X : Cx} {g : GF} {F H : Hp} {x y : V} {d1 d2 d : D} {Q : VK}
abbrev Sb (F H : Hp) : Prop := ∀ a o, F a = some o → H a = some o
theorem RO.int_inv {G : GI} {p : List Addr} {i : Int} (r : RO G F H p x (.int i)) : x = .int i := by cases r; rfl
theorem RO.bl_inv {G : GI} {p : List Addr} {i : Bool} (r : RO G F H p x (.bl i)) : x = .bl i := by cases r; rfl
theorem RO.non_inv {G : GI} {p : List Addr} (r : RO G F H p x .non) : x = .non := by cases r; rfl
theorem RO.str_inv {G : GI} {p : List Addr} {i : Str} (r : RO G F H p x (.str i)) : x = .str i := by cases r; rfl
theorem RO.tup_inv {G : GI} {ds : List D} (r : RO G F H [] x (.tup ds)) : ∃ a vs, x = .ref a ∧ F a = some (.tup vs) ∧ ROs G F H [] vs ds := by
  cases r with
  | tup e r => exact ⟨_, _, rfl, e, r⟩
theorem RO.lst_inv {G : GI} {o : Bool} {ds : List D} (r : RO G F H [] x (.lst o ds)) : o = false ∧ ∃ a vs, x = .ref a ∧ F a = some (.lst vs) ∧ ROs G F H [] vs ds := by
  cases r with
  | lz e r => exact ⟨rfl, _, _, rfl, e, r⟩
theorem RO.scr_inv {G : GI} {ns : List Int} (r : RO G F H [] x (.scr ns)) : ∃ a, x = .ref a ∧ SqL G.K F a (ns.map V.int) := by
  cases r with
  | scr e => exact ⟨_, rfl, e⟩
theorem RO.dk_inv {G : GI} {o : Bool} {kds : List (Key × D)} (r : RO G F H [] x (.dk o kds)) : o = false ∧ ∃ a kvs, x = .ref a ∧ F a = some (.dK kvs) ∧ kvs.map (·.1) = kds.map (·.1) ∧ ROs G F H [] (kvs.map (·.2)) (kds.map (·.2)) := by
  cases r with
  | dkz e k r => exact ⟨rfl, _, _, rfl, e, k, r⟩
theorem RO.dt_inv {G : GI} {o : Bool} {kds : List (List Key × D)} (r : RO G F H [] x (.dt o kds)) : o = false ∧ ∃ a kvs, x = .ref a ∧ F a = some (.dT kvs) ∧ kvs.map (·.1) = kds.map (·.1) ∧ ROs G F H [] (kvs.map (·.2)) (kds.map (·.2)) := by
  cases r with
  | dtz e k r => exact ⟨rfl, _, _, rfl, e, k, r⟩
theorem RB.int_inv {G : GI} {i : Int} (r : RB G F H x (.int i)) : x = .int i := by cases r with | z r => exact r.int_inv
theorem RB.bl_inv {G : GI} {i : Bool} (r : RB G F H x (.bl i)) : x = .bl i := by cases r with | z r => exact r.bl_inv
theorem RB.non_inv {G : GI} (r : RB G F H x .non) : x = .non := by cases r with | z r => exact r.non_inv
theorem RB.str_inv {G : GI} {i : Str} (r : RB G F H x (.str i)) : x = .str i := by cases r with | z r => exact r.str_inv
theorem RB.tup_inv {G : GI} {ds : List D} (r : RB G F H x (.tup ds)) : ∃ a vs, x = .ref a ∧ F a = some (.tup vs) ∧ ROs G F H [] vs ds := by
  cases r with
  | z r => exact r.tup_inv
theorem RB.lst_inv {G : GI} {o : Bool} {ds : List D} (s : Sb F H) (r : RB G F H x (.lst o ds)) : o = false ∧ ∃ a vs, x = .ref a ∧ H a = some (.lst vs) ∧ ROs G F H [] vs ds := by
  cases r with
  | z r =>
    obtain ⟨h1, a, vs, h2, h3, h4⟩ := r.lst_inv
    exact ⟨h1, a, vs, h2, s _ _ h3, h4⟩
  | l e r => exact ⟨rfl, _, _, rfl, e, r⟩
theorem RB.scr_inv {G : GI} {ns : List Int} (r : RB G F H x (.scr ns)) : ∃ a, x = .ref a ∧ SqL G.K F a (ns.map V.int) := by
  cases r with
  | z r => exact r.scr_inv
theorem RB.dk_inv {G : GI} {o : Bool} {kds : List (Key × D)} (s : Sb F H) (r : RB G F H x (.dk o kds)) : o = false ∧ ∃ a kvs, x = .ref a ∧ H a = some (.dK kvs) ∧ kvs.map (·.1) = kds.map (·.1) ∧ ROs G F H [] (kvs.map (·.2)) (kds.map (·.2)) := by
  cases r with
  | z r =>
    obtain ⟨h1, a, vs, h2, h3, h4⟩ := r.dk_inv
    exact ⟨h1, a, vs, h2, s _ _ h3, h4⟩
  | k e q r => exact ⟨rfl, _, _, rfl, e, q, r⟩
theorem RB.dt_inv {G : GI} {o : Bool} {kds : List (List Key × D)} (s : Sb F H) (r : RB G F H x (.dt o kds)) : o = false ∧ ∃ a kvs, x = .ref a ∧ H a = some (.dT kvs) ∧ kvs.map (·.1) = kds.map (·.1) ∧ ROs G F H [] (kvs.map (·.2)) (kds.map (·.2)) := by
  cases r with
  | z r =>
    obtain ⟨h1, a, vs, h2, h3, h4⟩ := r.dt_inv
    exact ⟨h1, a, vs, h2, s _ _ h3, h4⟩
  | t e q r => exact ⟨rfl, _, _, rfl, e, q, r⟩
theorem ints_rep {G : GI} : ∀ {ds : List D} {vs : List V} {ns : List Int}, ROs G F H [] vs ds → intsD ds = some ns → vs = ns.map V.int
  | [], _, ns, r, h => by
    obtain ⟨e, _⟩ := r.invN
    have : ns = [] := by injection h with h; exact h.symm
    rw [e, this]; rfl
  | d :: ds, [], _, r, _ => nomatch r.length
  | d :: ds, v :: vs, ns, r, h => by
    obtain ⟨r1, r2⟩ := r.unconsZ
    cases d with
    | int i =>
      have h2 : (intsD ds).map (i :: ·) = some ns := h
      cases q : intsD ds with
      | none => rw [q] at h2; cases h2
      | some ms =>
        rw [q] at h2
        injection h2 with h2
        rw [← h2, r1.int_inv, ints_rep r2 q]; rfl
    | _ => cases h
theorem bls_rep {G : GI} : ∀ {ds : List D} {vs : List V} {ns : List Bool}, ROs G F H [] vs ds → blsD ds = some ns → vs = ns.map V.bl
  | [], _, ns, r, h => by
    obtain ⟨e, _⟩ := r.invN
    have : ns = [] := by injection h with h; exact h.symm
    rw [e, this]; rfl
  | d :: ds, [], _, r, _ => nomatch r.length
  | d :: ds, v :: vs, ns, r, h => by
    obtain ⟨r1, r2⟩ := r.unconsZ
    cases d with
    | bl i =>
      have h2 : (blsD ds).map (i :: ·) = some ns := h
      cases q : blsD ds with
      | none => rw [q] at h2; cases h2
      | some ms =>
        rw [q] at h2
        injection h2 with h2
        rw [← h2, r1.bl_inv, bls_rep r2 q]; rfl
    | _ => cases h
/-! ### arithmetic -/
theorem hr_cmp {G : GI} {f : Int → Int → Bool} (s : Sb F H) (r1 : RB G F H x d1) (r2 : RB G F H y d2) (h : cmpD f d1 d2 = some d) (k : KR G F H d Q) : rI0 (fun i j => .bl (f i j)) x y H Q := by
  cases d1 <;> first | (cases h; done) | skip
  cases d2 <;> first | (cases h; done) | skip
  injection h with h; subst h
  exact ⟨_, _, r1.int_inv, r2.int_inv, k.z s (.bl _)⟩
theorem hr_add {G : GI} (s : Sb F H) (r1 : RB G F H x d1) (r2 : RB G F H y d2) (h : addD d1 d2 = some d) (k : KR G F H d Q) :
    rI0 (fun i j => .int (i + j)) x y H Q ∨ (rCat x y H Q ∨ rCatA G.K x y H Q) := by
  cases d1 with
  | int i =>
    cases d2 <;> first | (cases h; done) | skip
    injection h with h; subst h
    exact .inl ⟨_, _, r1.int_inv, r2.int_inv, k.z s (.int _)⟩
  | lst o xs =>
    cases d2 <;> first | (cases h; done) | skip
    rename_i o2 ys
    have h : (if xs.length + ys.length ≤ LIM then some (D.lst true (xs ++ ys)) else none) = some d := h
    split at h
    · rename_i hl
      injection h with h; subst h
      obtain ⟨_, a, vs, rfl, ha, ra⟩ := r1.lst_inv s
      obtain ⟨_, b, ws, rfl, hb, rb⟩ := r2.lst_inv s
      refine .inr (.inl ⟨a, b, vs, ws, rfl, rfl, ha, hb, ?_, fun p hp => k.lst s (ra.append rb) hp⟩)
      rw [ra.length, rb.length]; exact LIM_line hl
    · cases h
  | tup xs =>
    cases d2 <;> first | (cases h; done) | skip
    rename_i ys
    have h : (if xs.length + ys.length ≤ LIM then some (D.tup (xs ++ ys)) else none) = some d := h
    split at h
    · rename_i hl
      injection h with h; subst h
      obtain ⟨a, vs, rfl, ha, ra⟩ := r1.tup_inv
      obtain ⟨b, ws, rfl, hb, rb⟩ := r2.tup_inv
      refine .inr (.inr ⟨a, b, vs, ws, rfl, rfl, SqT.of (s _ _ ha), SqT.of (s _ _ hb), ?_, fun e => ?_, fun _ e => ?_, fun _ _ p hp => k.tup s (ra.append rb) hp⟩)
      · rw [ra.length, rb.length]; exact LIM_line hl
      · have hx : xs = [] := by
          have := ra.length
          rw [e] at this
          exact List.length_eq_zero_iff.mp this.symm
        subst hx
        exact k.z s (.tup hb rb)
      · have hx : ys = [] := by
          have := rb.length
          rw [e] at this
          exact List.length_eq_zero_iff.mp this.symm
        subst hx
        rw [List.append_nil] at k
        exact k.z s (.tup ha ra)
    · cases h
  | _ => cases h
theorem hr_sub {G : GI} (s : Sb F H) (r1 : RB G F H x d1) (r2 : RB G F H y d2) (h : subD d1 d2 = some d) (k : KR G F H d Q) : rI0 (fun i j => .int (i - j)) x y H Q := by
  cases d1 <;> first | (cases h; done) | skip
  cases d2 <;> first | (cases h; done) | skip
  injection h with h; subst h
  exact ⟨_, _, r1.int_inv, r2.int_inv, k.z s (.int _)⟩
theorem ROs.rep {G : GI} {ds : List D} {vs : List V} (r : ROs G F H [] vs ds) : ∀ n : Nat, ROs G F H [] (List.replicate n vs).flatten (List.replicate n ds).flatten
  | 0 => .nil
  | n + 1 => by
    rw [List.replicate_succ, List.replicate_succ, List.flatten_cons, List.flatten_cons]
    exact (r.append (ROs.rep r n)).cast rfl
theorem hr_mul {G : GI} (s : Sb F H) (r1 : RB G F H x d1) (r2 : RB G F H y d2) (h : mulD d1 d2 = some d) (k : KR G F H d Q) :
    rI CMul (fun i j => .int (i * j)) x y H Q ∨ (rI CMulW (fun i j => .int (i * j)) x y H Q ∨ rRep x y H Q) := by
  cases d1 with
  | int i =>
    cases d2 <;> first | (cases h; done) | skip
    rename_i j
    have h : (if mulOk i j = true then some (D.int (i * j)) else none) = some d := h
    split at h
    · rename_i hm
      injection h with h; subst h
      have q : Q (.int (i * j)) H := k.z s (.int _)
      unfold mulOk at hm
      rw [Bool.or_eq_true, Bool.or_eq_true, decide_eq_true_eq] at hm
      rcases hm with hm | hm | hm
      · have hm := Nat.le_of_ble_eq_true hm
        exact .inl ⟨_, _, r1.int_inv, r2.int_inv, .inl (by omega), q⟩
      · have hm := Nat.le_of_ble_eq_true hm
        exact .inl ⟨_, _, r1.int_inv, r2.int_inv, .inr (by omega), q⟩
      · exact .inr (.inl ⟨_, _, r1.int_inv, r2.int_inv, hm, q⟩)
    · cases h
  | lst o xs =>
    cases d2 <;> first | (cases h; done) | skip
    rename_i n
    have h : (if Nat.ble n.natAbs 9223372036854775807 = true ∧ xs.length * n.toNat ≤ LIM then some (D.lst true (List.replicate n.toNat xs).flatten) else none) = some d := h
    split at h
    · rename_i hl
      injection h with h; subst h
      obtain ⟨_, a, vs, rfl, ha, ra⟩ := r1.lst_inv s
      have hb := Nat.le_of_ble_eq_true hl.1
      refine .inr (.inr ⟨a, n, vs, rfl, r2.int_inv, ha, by omega, by omega, ?_, fun p hp => k.lst s (ra.rep _) hp⟩)
      rw [ra.length]; exact LIM_line hl.2
    · cases h
  | _ => cases h
theorem divOk_log {j : Int} (h : divOk j = true) : j.natAbs < 1073741824 ∨ j.natAbs.log2 < 9000 := by
  unfold divOk at h
  rw [Bool.or_eq_true, decide_eq_true_eq, decide_eq_true_eq] at h
  exact h
def CDivA (_ j : Int) : Prop := j ≠ 0 ∧ (j.natAbs < 1073741824 ∨ j.natAbs.log2 < 9000)
theorem op_fdivA : OpR X (binaryOp .FloorDiv) (rI CDivA fun i j => .int (i.fdiv j)) := opI fun i j _ _ _ _ _ hc q => by
  rcases hc.2 with h | h
  · exact floordiv_int hc.1 q (.inl (PyProof.noPylong_small h))
  · exact floordiv_int hc.1 q (.inl (PyProof.noPylong_of_log2 h))
theorem hr_fdiv {G : GI} (s : Sb F H) (r1 : RB G F H x d1) (r2 : RB G F H y d2) (h : fdivD d1 d2 = some d) (k : KR G F H d Q) : rI CDivA (fun i j => .int (i.fdiv j)) x y H Q := by
  cases d1 <;> first | (cases h; done) | skip
  cases d2 <;> first | (cases h; done) | skip
  rename_i i j
  have h : (if 0 < j then (if divOk j = true then some (D.int (i / j)) else none) else if j = 0 then none else if divOk j = true then some (D.int (i.fdiv j)) else none) = some d := h
  split at h
  · rename_i hj
    split at h
    · rename_i hd
      injection h with h; subst h
      refine ⟨_, _, r1.int_inv, r2.int_inv, ⟨by omega, divOk_log hd⟩, ?_⟩
      show Q (.int (i.fdiv j)) H
      rw [Int.fdiv_eq_ediv_of_nonneg i (by omega)]
      exact k.z s (.int _)
    · cases h
  · split at h
    · cases h
    · rename_i hj
      split at h
      · rename_i hd
        injection h with h; subst h
        exact ⟨_, _, r1.int_inv, r2.int_inv, ⟨hj, divOk_log hd⟩, k.z s (.int _)⟩
      · cases h
theorem hr_mod {G : GI} (s : Sb F H) (r1 : RB G F H x d1) (r2 : RB G F H y d2) (h : modD d1 d2 = some d) (k : KR G F H d Q) : rI (fun _ j => j ≠ 0) (fun i j => .int (i.fmod j)) x y H Q := by
  cases d1 <;> first | (cases h; done) | skip
  cases d2 <;> first | (cases h; done) | skip
  rename_i i j
  have h : (if 0 < j then some (D.int (i % j)) else if j = 0 then none else some (D.int (i.fmod j))) = some d := h
  split at h
  · injection h with h; subst h
    refine ⟨_, _, r1.int_inv, r2.int_inv, by omega, ?_⟩
    show Q (.int (i.fmod j)) H
    rw [Int.fmod_eq_emod_of_nonneg i (by omega)]
    exact k.z s (.int _)
  · split at h
    · cases h
    · rename_i hj
      injection h with h; subst h
      exact ⟨_, _, r1.int_inv, r2.int_inv, hj, k.z s (.int _)⟩
theorem hr_pow {G : GI} (s : Sb F H) (r1 : RB G F H x d1) (r2 : RB G F H y d2) (h : powD d1 d2 = some d) (k : KR G F H d Q) : rI CPow (fun i j => .int (i ^ j.toNat)) x y H Q := by
  cases d1 <;> first | (cases h; done) | skip
  cases d2 <;> first | (cases h; done) | skip
  rename_i i j
  have h : (if 0 ≤ j ∧ Nat.ble j.natAbs 1000000 = true ∧ Nat.ble i.natAbs 18446744073709551615 = true then some (D.int (i ^ j.toNat)) else none) = some d := h
  split at h
  · rename_i hp
    injection h with h; subst h
    have h1 := Nat.le_of_ble_eq_true hp.2.1
    have h2 := Nat.le_of_ble_eq_true hp.2.2
    exact ⟨_, _, r1.int_inv, r2.int_inv, ⟨hp.1, by omega, by omega⟩, k.z s (.int _)⟩
  · cases h
theorem hr_neg {G : GI} (s : Sb F H) (r1 : RB G F H x d1) (h : negD d1 = some d) (k : KR G F H d Q) : rU (fun i => .int (-i)) x H Q := by
  cases d1 <;> first | (cases h; done) | skip
  injection h with h; subst h
  exact ⟨_, r1.int_inv, k.z s (.int _)⟩
/-! ### is -/
theorem isN_rep {G : GI} (r : RB G F H x d1) : decide (x = .non) = isN d1 := by
  cases r with
  | z r => cases r <;> rfl
  | _ => rfl
theorem hr_isN {G : GI} (s : Sb F H) (r1 : RB G F H x d1) (h : some (D.bl (isN d1)) = some d) (k : KR G F H d Q) : Q (.bl (decide (x = .non))) H := by
  injection h with h; subst h
  rw [isN_rep r1]
  exact k.z s (.bl _)
theorem hr_notN {G : GI} (s : Sb F H) (r1 : RB G F H x d1) (h : some (D.bl (!isN d1)) = some d) (k : KR G F H d Q) : Q (.bl (!decide (x = .non))) H := by
  injection h with h; subst h
  rw [isN_rep r1]
  exact k.z s (.bl _)
theorem op_isC {b : Bool} : OpR X (compareOp .Is) (fun x y H Q => y = .bl b ∧ Q (.bl (decide (x = .bl b))) H) := by
  intro pins s σ H x y v u Q I rx ry h
  obtain ⟨rfl, q⟩ := h
  cases ry
  cases x with
  | bl c =>
    cases (show v = Value.bool c from rx)
    by_cases e : c = b
    · subst e
      exact wpAny_is_self rfl ⟨.bl true, H, I, rfl, by simpa using q⟩
    · exact wpAny_is_other rfl (fun z => e (Value.bool.inj z)) ⟨.bl false, H, I, rfl, by simpa [e] using q⟩
  | non => cases rx; exact wpAny_pure ⟨.bl false, H, I, rfl, by simpa using q⟩
  | int i => obtain ⟨t, rfl⟩ := rx; exact wpAny_pure ⟨.bl false, H, I, rfl, by simpa using q⟩
  | str i => obtain ⟨t, rfl⟩ := rx; exact wpAny_pure ⟨.bl false, H, I, rfl, by simpa using q⟩
  | byt i => obtain ⟨t, rfl⟩ := rx; exact wpAny_pure ⟨.bl false, H, I, rfl, by simpa using q⟩
  | flt i => obtain ⟨t, rfl⟩ := rx; exact wpAny_pure ⟨.bl false, H, I, rfl, by simpa using q⟩
  | ref a => cases rx; exact wpAny_pure ⟨.bl false, H, I, rfl, by simpa using q⟩
  | ty n => cases rx; exact wpAny_pure ⟨.bl false, H, I, rfl, by simpa using q⟩
theorem op_isnotC {b : Bool} : OpR X (compareOp .IsNot) (fun x y H Q => y = .bl b ∧ Q (.bl (!decide (x = .bl b))) H) := by
  intro pins s σ H x y v u Q I rx ry h
  obtain ⟨rfl, q⟩ := h
  cases ry
  cases x with
  | bl c =>
    cases (show v = Value.bool c from rx)
    by_cases e : c = b
    · subst e
      exact wpAny_isNot_self rfl ⟨.bl false, H, I, rfl, by simpa using q⟩
    · exact wpAny_isNot_other rfl (fun z => e (Value.bool.inj z)) ⟨.bl true, H, I, rfl, by simpa [e] using q⟩
  | non => cases rx; exact wpAny_pure ⟨.bl true, H, I, rfl, by simpa using q⟩
  | int i => obtain ⟨t, rfl⟩ := rx; exact wpAny_pure ⟨.bl true, H, I, rfl, by simpa using q⟩
  | str i => obtain ⟨t, rfl⟩ := rx; exact wpAny_pure ⟨.bl true, H, I, rfl, by simpa using q⟩
  | byt i => obtain ⟨t, rfl⟩ := rx; exact wpAny_pure ⟨.bl true, H, I, rfl, by simpa using q⟩
  | flt i => obtain ⟨t, rfl⟩ := rx; exact wpAny_pure ⟨.bl true, H, I, rfl, by simpa using q⟩
  | ref a => cases rx; exact wpAny_pure ⟨.bl true, H, I, rfl, by simpa using q⟩
  | ty n => cases rx; exact wpAny_pure ⟨.bl true, H, I, rfl, by simpa using q⟩
theorem isB_rep {G : GI} {b : Bool} (r : RB G F H x d1) : decide (x = .bl b) = isB b d1 := by
  cases r with
  | z r =>
    cases r <;> first
      | rfl
      | (rename_i c; cases c <;> cases b <;> rfl)
  | _ => rfl
/-! ### equality -/
mutual
theorem dp_of {G : GI} (s : Sb F H) : ∀ (n : Nat) (d : D) {x : V}, RO G F H [] x d → eqOk n d = true → Dp G.K H x (pd d)
  | 0, d, _, _, h => by cases d <;> cases h
  | n + 1, .non, _, r, _ => by rw [r.non_inv]; exact .non
  | n + 1, .bl b, _, r, _ => by rw [r.bl_inv]; exact .bl b
  | n + 1, .int b, _, r, _ => by rw [r.int_inv]; exact .int b
  | n + 1, .str b, _, r, _ => by rw [r.str_inv]; exact .str b
  | n + 1, .tup ds, _, r, h => by
    obtain ⟨a, vs, rfl, e, r⟩ := r.tup_inv
    exact .tup (SqT.of (s _ _ e)) (dps_of s n ds r h)
  | n + 1, .lst o ds, _, r, h => by
    obtain ⟨_, a, vs, rfl, e, r⟩ := r.lst_inv
    exact .lst (SqL.of (s _ _ e)) (dps_of s n ds r h)
  | n + 1, .scr _, _, _, h => by cases h
  | n + 1, .dk _ _, _, _, h => by cases h
  | n + 1, .dt _ _, _, _, h => by cases h
  | n + 1, .fn _, _, _, h => by cases h
theorem dps_of {G : GI} (s : Sb F H) : ∀ (n : Nat) (ds : List D) {vs : List V}, ROs G F H [] vs ds → eqOks n ds = true → DpAll G.K H vs (pds ds)
  | n, [], vs, r, _ => by
    obtain ⟨rfl, _⟩ := r.invN
    exact .nil
  | n, d :: ds, [], r, _ => nomatch r.length
  | n, d :: ds, v :: vs, r, h => by
    have h2 : (eqOk n d && eqOks n ds) = true := by
      cases n <;> exact h
    rw [Bool.and_eq_true] at h2
    obtain ⟨r1, r2⟩ := r.unconsZ
    exact .cons (dp_of s n d r1 h2.1) (dps_of s n ds r2 h2.2)
end
mutual
theorem lay_of : ∀ (n : Nat) (d : D), eqOk n d = true → (pd d).canLay0 = true ∧ (pd d).depth ≤ n
  | 0, d, h => by cases d <;> cases h
  | n + 1, .non, _ => ⟨by simp [pd, PyData.canLay0], by simp [pd, PyData.depth]⟩
  | n + 1, .bl b, _ => ⟨by simp [pd, PyData.canLay0], by simp [pd, PyData.depth]⟩
  | n + 1, .int b, _ => ⟨by simp [pd, PyData.canLay0], by simp [pd, PyData.depth]⟩
  | n + 1, .str b, h => ⟨by simp only [pd, PyData.canLay0]; exact h, by simp [pd, PyData.depth]⟩
  | n + 1, .tup ds, h => by
    obtain ⟨h1, h2⟩ := lays_of n ds h
    refine ⟨by simp only [pd, PyData.canLay0]; exact h1, ?_⟩
    simp only [pd, PyData.depth]
    omega
  | n + 1, .lst o ds, h => by
    obtain ⟨h1, h2⟩ := lays_of n ds h
    refine ⟨by simp only [pd, PyData.canLay0]; exact h1, ?_⟩
    simp only [pd, PyData.depth]
    omega
  | n + 1, .scr _, h => by cases h
  | n + 1, .dk _ _, h => by cases h
  | n + 1, .dt _ _, h => by cases h
  | n + 1, .fn _, h => by cases h
theorem lays_of : ∀ (n : Nat) (ds : List D), eqOks n ds = true → PyData.canLayAll0 (pds ds) = true ∧ PyData.depthAll (pds ds) ≤ n
  | n, [], _ => ⟨by simp [pds, PyData.canLayAll0], by simp [pds, PyData.depthAll]⟩
  | n, d :: ds, h => by
    have h2 : (eqOk n d && eqOks n ds) = true := by
      cases n <;> exact h
    rw [Bool.and_eq_true] at h2
    obtain ⟨a1, a2⟩ := lay_of n d h2.1
    obtain ⟨b1, b2⟩ := lays_of n ds h2.2
    refine ⟨by simp only [pds, PyData.canLayAll0, a1, b1, Bool.and_self], ?_⟩
    simp only [pds, PyData.depthAll]
    omega
end
theorem shaped_of {n : Nat} {d : D} (h : eqOk n d = true) (hn : n ≤ 64) : SeqAt.shaped (pd d) = true := by
  obtain ⟨h1, h2⟩ := lay_of n d h
  unfold SeqAt.shaped
  rw [h1, Bool.true_and, decide_eq_true_eq]
  omega
mutual
theorem eqv_of : ∀ (n : Nat) (a b : D) (m : Nat), eqOk n a = true → eqOk m b = true → PyData.eqv (pd a) (pd b) = eqvD a b
  | 0, d, _, _, h, _ => by cases d <;> cases h
  | _, _, d, 0, _, h => by cases d <;> cases h
  | n + 1, .non, b, m + 1, _, h => by cases b <;> first | (cases h; done) | simp [pd, PyData.eqv, eqvD]
  | n + 1, .bl a, b, m + 1, _, h => by cases b <;> first | (cases h; done) | simp [pd, PyData.eqv, eqvD]
  | n + 1, .int a, b, m + 1, _, h => by cases b <;> first | (cases h; done) | simp [pd, PyData.eqv, eqvD]
  | n + 1, .str a, b, m + 1, _, h => by cases b <;> first | (cases h; done) | simp [pd, PyData.eqv, eqvD]
  | n + 1, .tup xs, b, m + 1, h1, h => by
    cases b with
    | tup ys => simp only [pd, PyData.eqv, eqvD]; exact eqvs_of n xs ys m h1 h
    | non => simp [pd, PyData.eqv, eqvD]
    | bl _ => simp [pd, PyData.eqv, eqvD]
    | int _ => simp [pd, PyData.eqv, eqvD]
    | str _ => simp [pd, PyData.eqv, eqvD]
    | lst _ _ => simp [pd, PyData.eqv, eqvD]
    | _ => cases h
  | n + 1, .lst o xs, b, m + 1, h1, h => by
    cases b with
    | lst o2 ys => simp only [pd, PyData.eqv, eqvD]; exact eqvs_of n xs ys m h1 h
    | non => simp [pd, PyData.eqv, eqvD]
    | bl _ => simp [pd, PyData.eqv, eqvD]
    | int _ => simp [pd, PyData.eqv, eqvD]
    | str _ => simp [pd, PyData.eqv, eqvD]
    | tup _ => simp [pd, PyData.eqv, eqvD]
    | _ => cases h
  | n + 1, .scr _, _, _, h, _ => by cases h
  | n + 1, .dk _ _, _, _, h, _ => by cases h
  | n + 1, .dt _ _, _, _, h, _ => by cases h
  | n + 1, .fn _, _, _, h, _ => by cases h
theorem eqvs_of : ∀ (n : Nat) (a b : List D) (m : Nat), eqOks n a = true → eqOks m b = true → PyData.eqvAll (pds a) (pds b) = eqvDs a b
  | n, [], [], m, _, _ => by simp [pds, PyData.eqvAll, eqvDs]
  | n, [], _ :: _, m, _, _ => by simp [pds, PyData.eqvAll, eqvDs]
  | n, _ :: _, [], m, _, _ => by simp [pds, PyData.eqvAll, eqvDs]
  | n, a :: as, b :: bs, m, h1, h2 => by
    have h3 : (eqOk n a && eqOks n as) = true := by
      cases n <;> exact h1
    have h4 : (eqOk m b && eqOks m bs) = true := by
      cases m <;> exact h2
    rw [Bool.and_eq_true] at h3 h4
    simp only [pds, PyData.eqvAll, eqvDs]
    rw [eqv_of n a b m h3.1 h4.1, eqvs_of n as bs m h3.2 h4.2]
end
theorem dp_ofB {G : GI} (s : Sb F H) {n : Nat} {d : D} (r : RB G F H x d) (h : eqOk n d = true) : Dp G.K H x (pd d) := by
  cases n with
  | zero => cases d <;> cases h
  | succ n =>
    cases r with
    | z r => exact dp_of s _ d r h
    | l e r => exact .lst (SqL.of e) (dps_of s n _ r h)
    | k _ _ _ => cases h
    | t _ _ _ => cases h
theorem hr_eq {G : GI} (s : Sb F H) (r1 : RB G F H x d1) (r2 : RB G F H y d2) (h : eqD d1 d2 = some d) (k : KR G F H d Q) : rEqD G.K x y H Q := by
  unfold eqD at h
  split at h
  · rename_i he
    injection h with h; subst h
    rw [Bool.and_eq_true] at he
    refine ⟨pd d1, pd d2, dp_ofB s r1 he.1, dp_ofB s r2 he.2, shaped_of he.1 (by decide), shaped_of he.2 (by decide), ?_⟩
    rw [eqv_of 60 d1 d2 60 he.1 he.2]
    exact k.z s (.bl _)
  · cases h
theorem hr_ne {G : GI} (s : Sb F H) (r1 : RB G F H x d1) (r2 : RB G F H y d2) (h : neD d1 d2 = some d) (k : KR G F H d Q) : rNeD G.K x y H Q := by
  unfold neD at h
  split at h
  · rename_i he
    injection h with h; subst h
    rw [Bool.and_eq_true] at he
    refine ⟨pd d1, pd d2, dp_ofB s r1 he.1, dp_ofB s r2 he.2, shaped_of he.1 (by decide), shaped_of he.2 (by decide), ?_⟩
    rw [eqv_of 60 d1 d2 60 he.1 he.2]
    exact k.z s (.bl _)
  · cases h
end
end EV

/-! EvE: items, membership, built-ins: each rule serves its plain reading. -/
namespace EV
open PySem PySem.Spec PyProof.Rows L2
section
variable {X : Cx} {g : GF} {F H : Hp} {x y : V} {d1 d2 d : D} {Q : VK}
theorem keyD_rep {G : GI} {k : Key} (r : RB G F H x d1) (h : keyD d1 = some k) : x = kV k := by
  cases d1 <;> first | (cases h; done) | skip
  · injection h with h; subst h; exact r.int_inv
  · injection h with h; subst h; exact r.str_inv
theorem keysD_rep {G : GI} : ∀ {ds : List D} {vs : List V} {ks : List Key}, ROs G F H [] vs ds → keysD ds = some ks → vs = ks.map kV
  | [], vs, ks, r, h => by
    obtain ⟨e, _⟩ := r.invN
    injection h with h; subst h; rw [e]; rfl
  | d :: ds, [], _, r, _ => nomatch r.length
  | d :: ds, v :: vs, ks, r, h => by
    obtain ⟨r1, r2⟩ := r.unconsZ
    have h2 : ((keyD d).bind fun k => (keysD ds).map (k :: ·)) = some ks := h
    cases q : keyD d with
    | none => rw [q] at h2; cases h2
    | some k =>
      rw [q] at h2
      cases q2 : keysD ds with
      | none => rw [q2] at h2; cases h2
      | some ms =>
        rw [q2] at h2
        injection h2 with h2; subst h2
        rw [keyD_rep (.z r1) q, keysD_rep r2 q2]; rfl
theorem getK_rep {κ : Type} [DecidableEq κ] {G : GI} : ∀ {kvs : List (κ × V)} {kds : List (κ × D)} (k : κ), kvs.map (·.1) = kds.map (·.1) → ROs G F H [] (kvs.map (·.2)) (kds.map (·.2)) →
    (valV kvs k = none ∧ getK kds k = none) ∨ ∃ v d, valV kvs k = some v ∧ getK kds k = some d ∧ RO G F H [] v d
  | [], [], k, _, _ => .inl ⟨rfl, rfl⟩
  | [], _ :: _, k, h, _ => by cases h
  | _ :: _, [], k, h, _ => by cases h
  | a :: kvs, b :: kds, k, h, r => by
    have h1 : a.1 = b.1 ∧ kvs.map (·.1) = kds.map (·.1) := by
      simpa using h
    obtain ⟨r1, r2⟩ := r.unconsZ
    by_cases e : b.1 = k
    · refine .inr ⟨a.2, b.2, valV_pos (h1.1.trans e), ?_, r1⟩
      unfold getK
      rw [List.find?_cons, decide_eq_true e]; rfl
    · rw [valV_neg (p := a) (fun z => e (h1.1.symm.trans z))]
      have e2 : getK (b :: kds) k = getK kds k := by
        unfold getK
        rw [List.find?_cons, decide_eq_false e]
      rw [e2]
      exact getK_rep k h1.2 r2
theorem getK_some {κ : Type} [DecidableEq κ] {G : GI} {kvs : List (κ × V)} {kds : List (κ × D)} {k : κ} (h : kvs.map (·.1) = kds.map (·.1)) (r : ROs G F H [] (kvs.map (·.2)) (kds.map (·.2))) : (valV kvs k).isSome = (getK kds k).isSome := by
  rcases getK_rep k h r with ⟨a, b⟩ | ⟨v, d, a, b, _⟩ <;> rw [a, b] <;> rfl
/-! ### in -/
theorem op_inDk (hu : X.A.units + 1 < cLine) : OpR X (compareOp .In) (fun x y H Q => ∃ a o, y = .ref a ∧ DGet H a x o ∧ Q (.bl o.isSome) H) := by
  intro pins s σ H x y v u Q I rx ry h
  obtain ⟨a, o, rfl, gd, q⟩ := h
  cases (show u = Value.ref a from ry)
  exact d_in hu I gd rx fun s' I' => ⟨.bl o.isSome, H, I', rfl, q⟩
theorem op_notinDk (hu : X.A.units + 1 < cLine) : OpR X (compareOp .NotIn) (fun x y H Q => ∃ a o, y = .ref a ∧ DGet H a x o ∧ Q (.bl (!o.isSome)) H) := by
  intro pins s σ H x y v u Q I rx ry h
  obtain ⟨a, o, rfl, gd, q⟩ := h
  cases (show u = Value.ref a from ry)
  exact d_notIn hu I gd rx fun s' I' => ⟨.bl (!o.isSome), H, I', rfl, q⟩
theorem any_eqv {n : Nat} (h1 : eqOk 60 d1 = true) : ∀ (ds : List D), eqOks n ds = true → (pds ds).any (fun z => PyData.eqv z (pd d1)) = ds.any fun z => eqvD z d1
  | [], _ => rfl
  | d :: ds, h => by
    have h2 : (eqOk n d && eqOks n ds) = true := by
      cases n <;> exact h
    rw [Bool.and_eq_true] at h2
    show (PyData.eqv (pd d) (pd d1) || (pds ds).any _) = (eqvD d d1 || ds.any _)
    rw [eqv_of n d d1 60 h2.1 h1, any_eqv h1 ds h2.2]
theorem flat_ints {G : GI} : ∀ {ds : List D} {vs : List V}, ROs G F H [] vs ds → (ds.all fun y => match y with | .int _ => true | _ => false) = true → vs.all flatV = true ∧ ∀ i, (vs.any fun y => eqV y (.int i)) = ds.any fun y => eqvD y (.int i)
  | [], vs, r, _ => by
    obtain ⟨e, _⟩ := r.invN
    subst e; exact ⟨rfl, fun _ => rfl⟩
  | d :: ds, [], r, _ => nomatch r.length
  | d :: ds, v :: vs, r, h => by
    obtain ⟨r1, r2⟩ := r.unconsZ
    cases d with
    | int j =>
      obtain ⟨h1, h2⟩ := flat_ints r2 (by simpa using h)
      rw [r1.int_inv]
      refine ⟨?_, fun i => ?_⟩
      · show (flatV (.int j) && vs.all flatV) = true
        rw [h1]; rfl
      · show (eqV (.int j) (.int i) || vs.any _) = (eqvD (.int j) (.int i) || ds.any _)
        rw [h2 i]
        congr 1
    | _ => simp at h
theorem hr_in {G : GI} {n : Bool} (s : Sb F H) (r1 : RB G F H x d1) (r2 : RB G F H y d2) (h : inD d1 d2 = some (.bl n)) :
    (∃ d ds, Dp G.K H x d ∧ Dp G.K H y (.list ds) ∧ SeqAt.shaped d = true ∧ SeqAt.shaped (.list ds) = true ∧ (ds.any fun z => PyData.eqv z d) = n) ∨
    ((∃ p xs, y = .ref p ∧ (SqL G.K H p xs ∨ SqT G.K H p xs) ∧ flatV x = true ∧ xs.all flatV = true ∧ inV x xs = n) ∨ ∃ a o, y = .ref a ∧ DGet H a x o ∧ o.isSome = n) := by
  cases d2 with
  | lst o ys =>
    have h : (if eqOk 60 d1 && eqOks 59 ys then some (D.bl (ys.any fun z => eqvD z d1)) else none) = some (.bl n) := by
      cases d1 <;> exact h
    split at h
    · rename_i he
      injection h with h
      injection h with h
      rw [Bool.and_eq_true] at he
      refine .inl ⟨pd d1, pds ys, dp_ofB s r1 he.1, ?_, shaped_of he.1 (by decide), shaped_of (n := 60) (d := .lst o ys) he.2 (by decide), (any_eqv he.1 ys he.2).trans h⟩
      exact dp_ofB (n := 60) (d := .lst o ys) s r2 he.2
    · cases h
  | dk o kds =>
    have h : ((keyD d1).map fun k => D.bl (getK kds k).isSome) = some (.bl n) := by
      cases d1 <;> exact h
    cases q : keyD d1 with
    | none => rw [q] at h; cases h
    | some k =>
      rw [q] at h
      injection h with h
      injection h with h
      obtain ⟨_, a, kvs, rfl, ha, hk, rk⟩ := r2.dk_inv s
      rw [keyD_rep r1 q]
      exact .inr (.inr ⟨a, _, rfl, DGet.k ha, by rw [getK_some hk rk]; exact h⟩)
  | dt o kds =>
    cases d1 with
    | tup ks =>
      have h : ((keysD ks).map fun k => D.bl (getK kds k).isSome) = some (.bl n) := h
      cases q : keysD ks with
      | none => rw [q] at h; cases h
      | some k =>
        rw [q] at h
        injection h with h
        injection h with h
        obtain ⟨_, a, kvs, rfl, ha, hk, rk⟩ := r2.dt_inv s
        obtain ⟨b, vs, rfl, hb, rb⟩ := r1.tup_inv
        rw [keysD_rep rb q] at hb
        exact .inr (.inr ⟨a, _, rfl, DGet.t ha (s _ _ hb), by rw [getK_some hk rk]; exact h⟩)
    | _ => cases h
  | tup ys =>
    cases d1 with
    | int i =>
      have h : (if ys.all (fun y => match y with | .int _ => true | _ => false) then some (D.bl (ys.any fun y => eqvD y (.int i))) else none) = some (.bl n) := h
      split at h
      · rename_i he
        injection h with h
        injection h with h
        obtain ⟨b, vs, rfl, hb, rb⟩ := r2.tup_inv
        obtain ⟨f1, f2⟩ := flat_ints rb he
        rw [r1.int_inv]
        exact .inr (.inl ⟨b, vs, rfl, .inr (SqT.of (s _ _ hb)), rfl, f1, (f2 i).trans h⟩)
      · cases h
    | _ => cases h
  | _ => cases d1 <;> cases h
/-! ### items -/
theorem ix_dict (hu : X.A.units + 1 < cLine) : IxR X (fun x y H Q => ∃ a v, x = .ref a ∧ DGet H a y (some v) ∧ Q v H) := by
  intro value slice pins s σ H x y v u Q I rx ry h hs
  obtain ⟨a, z, rfl, gd, q⟩ := h
  cases rx
  exact tail_any (dict_typeIs I gd) PySem.F.slot_dict_getitem.lookup (d_getItem hu I gd ry fun w' s3 I3 rw' => ⟨z, H, I3, rw', q⟩) hs
theorem ROs.at_ {G : GI} {vs : List V} {ds : List D} (r : ROs G F H [] vs ds) {i : Int} (h : atI ds i = some d) : ∃ u, atI vs i = some u ∧ RO G F H [] u d := by
  unfold atI at h ⊢
  rw [r.length]
  cases q : ixN ds.length i with
  | none => rw [q] at h; cases h
  | some j =>
    rw [q] at h
    exact r.get h
theorem atI_map {α β : Type} (f : α → β) (xs : List α) (i : Int) : atI (xs.map f) i = (atI xs i).map f := by
  unfold atI
  rw [List.length_map]
  cases ixN xs.length i with
  | none => rfl
  | some j => simp
theorem hr_ix {G : GI} (s : Sb F H) (r1 : RB G F H x d1) (r2 : RB G F H y d2) (h : ixD d1 d2 = some d) (k : KR G F H d Q) :
    rIxL G.K x y H Q ∨ (rIxT G.K x y H Q ∨ ∃ a v, x = .ref a ∧ DGet H a y (some v) ∧ Q v H) := by
  cases d1 with
  | tup xs =>
    cases d2 <;> first | (cases h; done) | skip
    rename_i i
    obtain ⟨a, vs, rfl, ha, ra⟩ := r1.tup_inv
    obtain ⟨u, hu, ru⟩ := ra.at_ (i := i) (d := d) h
    exact .inr (.inl ⟨a, vs, i, u, rfl, r2.int_inv, SqT.of (s _ _ ha), hu, k.z s ru⟩)
  | lst o xs =>
    cases d2 <;> first | (cases h; done) | skip
    rename_i i
    obtain ⟨_, a, vs, rfl, ha, ra⟩ := r1.lst_inv s
    obtain ⟨u, hu, ru⟩ := ra.at_ (i := i) (d := d) h
    exact .inl ⟨a, vs, i, u, rfl, r2.int_inv, SqL.of ha, hu, k.z s ru⟩
  | scr ns =>
    cases d2 <;> first | (cases h; done) | skip
    rename_i i
    obtain ⟨a, rfl, ha⟩ := r1.scr_inv
    have h : (atI ns i).map D.int = some d := h
    cases q : atI ns i with
    | none => rw [q] at h; cases h
    | some n =>
      rw [q] at h
      injection h with h; subst h
      exact .inl ⟨a, _, i, .int n, rfl, r2.int_inv, SqL.le ha s, by rw [atI_map, q]; rfl, k.z s (.int n)⟩
  | dk o kds =>
    have h : ((keyD d2).bind fun k => getK kds k) = some d := by
      cases d2 <;> exact h
    cases q : keyD d2 with
    | none => rw [q] at h; cases h
    | some key =>
      rw [q] at h
      have h : getK kds key = some d := h
      obtain ⟨_, a, kvs, rfl, ha, hk, rk⟩ := r1.dk_inv s
      rcases getK_rep key hk rk with ⟨_, z⟩ | ⟨u, e, z1, z2, ru⟩
      · rw [z] at h; cases h
      · rw [z2] at h
        injection h with h; subst h
        rw [keyD_rep r2 q]
        exact .inr (.inr ⟨a, u, rfl, by rw [← z1]; exact DGet.k ha, k.z s ru⟩)
  | dt o kds =>
    cases d2 <;> first | (cases h; done) | skip
    rename_i ks
    have h : ((keysD ks).bind fun k => getK kds k) = some d := h
    cases q : keysD ks with
    | none => rw [q] at h; cases h
    | some key =>
      rw [q] at h
      have h : getK kds key = some d := h
      obtain ⟨_, a, kvs, rfl, ha, hk, rk⟩ := r1.dt_inv s
      obtain ⟨b, vs, rfl, hb, rb⟩ := r2.tup_inv
      rw [keysD_rep rb q] at hb
      rcases getK_rep key hk rk with ⟨_, z⟩ | ⟨u, e, z1, z2, ru⟩
      · rw [z] at h; cases h
      · rw [z2] at h
        injection h with h; subst h
        exact .inr (.inr ⟨a, u, rfl, by rw [← z1]; exact DGet.t ha (s _ _ hb), k.z s ru⟩)
  | _ => cases d2 <;> cases h
/-! ### built-ins -/
theorem hr_len {G : GI} (s : Sb F H) (r1 : RB G F H x d1) (h : lenD d1 = some d) (k : KR G F H d Q) : ∃ n, LenV G.K x H n ∧ Q (.int n) H := by
  cases d1 <;> first | (cases h; done) | skip
  · injection h with h; subst h
    obtain ⟨a, vs, rfl, ha, ra⟩ := r1.tup_inv
    exact ⟨vs.length, .inr ⟨vs, SqT.of (s _ _ ha), rfl⟩, by rw [ra.length]; exact k.z s (.int _)⟩
  · injection h with h; subst h
    obtain ⟨_, a, vs, rfl, ha, ra⟩ := r1.lst_inv s
    exact ⟨vs.length, .inl ⟨vs, SqL.of ha, rfl⟩, by rw [ra.length]; exact k.z s (.int _)⟩
  · injection h with h; subst h
    obtain ⟨a, rfl, ha⟩ := r1.scr_inv
    exact ⟨_, .inl ⟨_, SqL.le ha s, rfl⟩, by rw [List.length_map]; exact k.z s (.int _)⟩
theorem hr_abs {G : GI} (s : Sb F H) (r1 : RB G F H x d1) (h : absD d1 = some d) (k : KR G F H d Q) : ∃ i, [x] = [.int i] ∧ Q (.int (if i < 0 then -i else i)) H := by
  cases d1 <;> first | (cases h; done) | skip
  injection h with h; subst h
  exact ⟨_, by rw [r1.int_inv], k.z s (.int _)⟩
theorem hr_int {G : GI} (s : Sb F H) (r1 : RB G F H x d1) (h : intD d1 = some d) (k : KR G F H d Q) : (∃ i, [x] = [V.int i] ∧ Q (.int i) H) ∨ ∃ k, [x] = [V.bl k] ∧ Q (.int (if k then 1 else 0)) H := by
  cases d1 <;> first | (cases h; done) | skip
  · injection h with h; subst h
    exact .inr ⟨_, by rw [r1.bl_inv], k.z s (.int _)⟩
  · injection h with h; subst h
    exact .inl ⟨_, by rw [r1.int_inv], k.z s (.int _)⟩
theorem hr_max2 {G : GI} (s : Sb F H) (r1 : RB G F H x d1) (r2 : RB G F H y d2) (h : max2D d1 d2 = some d) (k : KR G F H d Q) : ∃ i j, [x, y] = [V.int i, .int j] ∧ Q (.int (if j > i then j else i)) H := by
  cases d1 <;> first | (cases h; done) | skip
  cases d2 <;> first | (cases h; done) | skip
  injection h with h; subst h
  exact ⟨_, _, by rw [r1.int_inv, r2.int_inv], k.z s (.int _)⟩
theorem hr_min2 {G : GI} (s : Sb F H) (r1 : RB G F H x d1) (r2 : RB G F H y d2) (h : min2D d1 d2 = some d) (k : KR G F H d Q) : ∃ i j, [x, y] = [V.int i, .int j] ∧ Q (.int (if j < i then j else i)) H := by
  cases d1 <;> first | (cases h; done) | skip
  cases d2 <;> first | (cases h; done) | skip
  injection h with h; subst h
  exact ⟨_, _, by rw [r1.int_inv, r2.int_inv], k.z s (.int _)⟩
theorem hr_tuple {G : GI} (s : Sb F H) (r1 : RB G F H x d1) (h : tupleD d1 = some d) (k : KR G F H d Q) :
    ∃ p ys, [x] = [V.ref p] ∧ ((SqL G.K H p ys ∧ ∀ l, H l = none → Q (.ref l) (upd H l (.tup ys))) ∨ (SqT G.K H p ys ∧ Q (.ref p) H)) := by
  cases d1 <;> first | (cases h; done) | skip
  · injection h with h; subst h
    obtain ⟨a, vs, rfl, ha, ra⟩ := r1.tup_inv
    exact ⟨a, vs, rfl, .inr ⟨SqT.of (s _ _ ha), k.z s (.tup ha ra)⟩⟩
  · injection h with h; subst h
    obtain ⟨_, a, vs, rfl, ha, ra⟩ := r1.lst_inv s
    exact ⟨a, vs, rfl, .inl ⟨SqL.of ha, fun l hl => k.tup s ra hl⟩⟩
theorem ints_RO {G : GI} : ∀ ns : List Int, ROs G F H [] (ns.map V.int) (ns.map D.int)
  | [] => .nil
  | n :: ns => ROs.consZ (.int n) (ints_RO ns)
theorem hr_list {G : GI} (s : Sb F H) (r1 : RB G F H x d1) (h : listD d1 = some d) (k : KR G F H d Q) :
    ∃ p ys, [x] = [V.ref p] ∧ (SqL G.K H p ys ∨ SqT G.K H p ys) ∧ ∀ l, H l = none → Q (.ref l) (upd H l (.lst ys)) := by
  cases d1 <;> first | (cases h; done) | skip
  · injection h with h; subst h
    obtain ⟨a, vs, rfl, ha, ra⟩ := r1.tup_inv
    exact ⟨a, vs, rfl, .inr (SqT.of (s _ _ ha)), fun l hl => k.lst s ra hl⟩
  · injection h with h; subst h
    obtain ⟨_, a, vs, rfl, ha, ra⟩ := r1.lst_inv s
    exact ⟨a, vs, rfl, .inl (SqL.of ha), fun l hl => k.lst s ra hl⟩
  · injection h with h; subst h
    obtain ⟨a, rfl, ha⟩ := r1.scr_inv
    exact ⟨a, _, rfl, .inl (SqL.le ha s), fun l hl => k.lst s (ints_RO _) hl⟩
theorem hr_sum {G : GI} (s : Sb F H) (r1 : RB G F H x d1) (h : sumD d1 = some d) (k : KR G F H d Q) : rSum G.K [x] H Q := by
  cases d1 <;> first | (cases h; done) | skip
  rename_i o xs
  have h : ((intsD xs).map fun ns => D.int ns.sum) = some d := h
  cases q : intsD xs with
  | none => rw [q] at h; cases h
  | some ns =>
    rw [q] at h
    injection h with h; subst h
    obtain ⟨_, a, vs, rfl, ha, ra⟩ := r1.lst_inv s
    rw [ints_rep ra q] at ha
    exact ⟨a, ns, rfl, SqL.of ha, k.z s (.int _)⟩
theorem maxL_ok : ∀ ns : List Int, 0 < ns.length → maxL ns ∈ ns ∧ ∀ y, y ∈ ns → y ≤ maxL ns
  | [], h => nomatch h
  | [a], _ => ⟨by simp [maxL], fun y hy => by simp at hy; subst hy; exact Int.le_refl _⟩
  | a :: b :: r, _ => by
    obtain ⟨h1, h2⟩ := maxL_ok (b :: r) (by simp)
    unfold maxL
    split
    · rename_i hl
      refine ⟨List.mem_cons_self .., fun y hy => ?_⟩
      rcases List.mem_cons.mp hy with e | hy
      · omega
      · have := h2 y hy; omega
    · refine ⟨List.mem_cons_of_mem _ h1, fun y hy => ?_⟩
      rcases List.mem_cons.mp hy with e | hy
      · omega
      · exact h2 y hy
theorem minL_ok : ∀ ns : List Int, 0 < ns.length → minL ns ∈ ns ∧ ∀ y, y ∈ ns → minL ns ≤ y
  | [], h => nomatch h
  | [a], _ => ⟨by simp [minL], fun y hy => by simp at hy; subst hy; exact Int.le_refl _⟩
  | a :: b :: r, _ => by
    obtain ⟨h1, h2⟩ := minL_ok (b :: r) (by simp)
    unfold minL
    split
    · rename_i hl
      refine ⟨List.mem_cons_self .., fun y hy => ?_⟩
      rcases List.mem_cons.mp hy with e | hy
      · omega
      · have := h2 y hy; omega
    · refine ⟨List.mem_cons_of_mem _ h1, fun y hy => ?_⟩
      rcases List.mem_cons.mp hy with e | hy
      · omega
      · exact h2 y hy
theorem hr_max1 {G : GI} (s : Sb F H) (r1 : RB G F H x d1) (h : max1D d1 = some d) (k : KR G F H d Q) : rMax G.K [x] H Q := by
  cases d1 <;> first | (cases h; done) | skip
  rename_i o xs
  have h : ((intsD xs).bind fun ns => if 0 < ns.length then some (D.int (maxL ns)) else none) = some d := h
  cases q : intsD xs with
  | none => rw [q] at h; cases h
  | some ns =>
    rw [q] at h
    have h : (if 0 < ns.length then some (D.int (maxL ns)) else none) = some d := h
    split at h
    · rename_i hl
      injection h with h; subst h
      obtain ⟨_, a, vs, rfl, ha, ra⟩ := r1.lst_inv s
      rw [ints_rep ra q] at ha
      refine ⟨a, ns, rfl, SqL.of ha, hl, fun m h1 h2 => ?_⟩
      obtain ⟨h3, h4⟩ := maxL_ok ns hl
      rw [show m = maxL ns from Int.le_antisymm (h4 m h1) (h2 _ h3)]
      exact k.z s (.int _)
    · cases h
theorem hr_min1 {G : GI} (s : Sb F H) (r1 : RB G F H x d1) (h : min1D d1 = some d) (k : KR G F H d Q) : rMin G.K [x] H Q := by
  cases d1 <;> first | (cases h; done) | skip
  rename_i o xs
  have h : ((intsD xs).bind fun ns => if 0 < ns.length then some (D.int (minL ns)) else none) = some d := h
  cases q : intsD xs with
  | none => rw [q] at h; cases h
  | some ns =>
    rw [q] at h
    have h : (if 0 < ns.length then some (D.int (minL ns)) else none) = some d := h
    split at h
    · rename_i hl
      injection h with h; subst h
      obtain ⟨_, a, vs, rfl, ha, ra⟩ := r1.lst_inv s
      rw [ints_rep ra q] at ha
      refine ⟨a, ns, rfl, SqL.of ha, hl, fun m h1 h2 => ?_⟩
      obtain ⟨h3, h4⟩ := minL_ok ns hl
      rw [show m = minL ns from Int.le_antisymm (h2 _ h3) (h4 m h1)]
      exact k.z s (.int _)
    · cases h
theorem hr_all {G : GI} (s : Sb F H) (r1 : RB G F H x d1) (h : allD d1 = some d) (k : KR G F H d Q) : rAll G.K [x] H Q := by
  cases d1 <;> first | (cases h; done) | skip
  rename_i o xs
  have h : ((blsD xs).map fun ns => D.bl (ns.all id)) = some d := h
  cases q : blsD xs with
  | none => rw [q] at h; cases h
  | some ns =>
    rw [q] at h
    injection h with h; subst h
    obtain ⟨_, a, vs, rfl, ha, ra⟩ := r1.lst_inv s
    rw [bls_rep ra q] at ha
    exact ⟨a, ns, rfl, SqL.of ha, k.z s (.bl _)⟩
theorem hr_any {G : GI} (s : Sb F H) (r1 : RB G F H x d1) (h : anyD d1 = some d) (k : KR G F H d Q) : rAny G.K [x] H Q := by
  cases d1 <;> first | (cases h; done) | skip
  rename_i o xs
  have h : ((blsD xs).map fun ns => D.bl (ns.any id)) = some d := h
  cases q : blsD xs with
  | none => rw [q] at h; cases h
  | some ns =>
    rw [q] at h
    injection h with h; subst h
    obtain ⟨_, a, vs, rfl, ha, ra⟩ := r1.lst_inv s
    rw [bls_rep ra q] at ha
    exact ⟨a, ns, rfl, SqL.of ha, k.z s (.bl _)⟩
def Ty.nm : Ty → String
  | .int => "int"
  | .bool => "bool"
  | .tuple => "tuple"
  | .list => "list"
  | .str => "str"
theorem kit_ty {K : PySem.W.Frag} (t : String) (T : Ty) : PySem.W.kitOne K (.type t) (.type T.nm) = PySem.W.kitOne [] (.type t) (.type T.nm) := rfl
theorem hr_isi {G : GI} {T : Ty} {b : Bool} (s : Sb F H) (r1 : RB G F H x d1) (h : isiD T d1 = some b) (q : Q (.bl b) H) : rIsi G.K [x, .ty T.nm] H Q := by
  refine ⟨x, .ty T.nm, ?_⟩
  cases d1 with
  | non => exact ⟨.type "NoneType", .type T.nm, b, rfl, .ty _, .base (by rw [r1.non_inv]; exact .non), by rw [kit_ty]; cases T <;> (injection h with h; subst h; decide +kernel), q⟩
  | bl c => exact ⟨.type "bool", .type T.nm, b, rfl, .ty _, .base (by rw [r1.bl_inv]; exact .bl _), by rw [kit_ty]; cases T <;> (injection h with h; subst h; decide +kernel), q⟩
  | int c => exact ⟨.type "int", .type T.nm, b, rfl, .ty _, .base (by rw [r1.int_inv]; exact .int _), by rw [kit_ty]; cases T <;> (injection h with h; subst h; decide +kernel), q⟩
  | str c => exact ⟨.type "str", .type T.nm, b, rfl, .ty _, .base (by rw [r1.str_inv]; exact .str _), by rw [kit_ty]; cases T <;> (injection h with h; subst h; decide +kernel), q⟩
  | tup xs =>
    obtain ⟨a, vs, rfl, ha, _⟩ := r1.tup_inv
    exact ⟨.type "tuple", .type T.nm, b, rfl, .ty _, .base (.tup (s _ _ ha)), by rw [kit_ty]; cases T <;> (injection h with h; subst h; decide +kernel), q⟩
  | lst o xs =>
    obtain ⟨_, a, vs, rfl, ha, _⟩ := r1.lst_inv s
    exact ⟨.type "list", .type T.nm, b, rfl, .ty _, .base (.lst ha), by rw [kit_ty]; cases T <;> (injection h with h; subst h; decide +kernel), q⟩
  | _ => cases T <;> cases h
theorem isE {α β : Type} : ∀ {xs : List α} {ys : List β}, xs.length = ys.length → (!ys.isEmpty) = !xs.isEmpty
  | [], [], _ => rfl
  | [], _ :: _, h => nomatch h
  | _ :: _, [], h => nomatch h
  | _ :: _, _ :: _, _ => rfl
theorem hr_tru {G : GI} {b : Bool} (s : Sb F H) (r1 : RB G F H x d1) (h : truD d1 = some b) : TruV G.K x H b := by
  cases d1 <;> first | (cases h; done) | skip
  · injection h with h; subst h; rw [r1.non_inv]; rfl
  · injection h with h; subst h; rw [r1.bl_inv]; rfl
  · injection h with h; subst h; rw [r1.int_inv]; rfl
  · injection h with h; subst h
    obtain ⟨a, vs, rfl, ha, ra⟩ := r1.tup_inv
    exact .inr (.inl ⟨vs, SqT.of (s _ _ ha), isE ra.length⟩)
  · injection h with h; subst h
    obtain ⟨_, a, vs, rfl, ha, ra⟩ := r1.lst_inv s
    exact .inl ⟨vs, SqL.of ha, isE ra.length⟩
end
end EV

/-! EvF: expressions of the text have plain readings. -/
namespace EV
open PySem PySem.Spec PyProof.Rows L2

/-- what is known of where one stands -/
structure Cn (X : Cx) (N : List Str) (sc : Scope) (fr : List Str) : Prop where
  hN : X.N = N
  nd : N.Nodup
  hsc : X.env.scope = sc
  calm : X.calm = true
  hu : X.A.units + 200 < cLine
  hfr : ∀ x, x ∈ fr → X.mg x = none
def visB (sc : Scope) (x : Str) : Bool := match sc.names.lookup x with
  | some .local => true
  | some .cell => true
  | some .free => true
  | _ => false
def glB (sc : Scope) (x : Str) : Bool := match sc.names.lookup x with
  | some .globalImplicit => true
  | _ => false
theorem visB_ok {sc : Scope} {x : Str} (h : visB sc x = true) : Vis sc x := by
  unfold visB at h
  split at h
  · rename_i q; exact .inl q
  · rename_i q; exact .inr (.inl q)
  · rename_i q; exact .inr (.inr q)
  · cases h
theorem glB_ok {sc : Scope} {x : Str} (h : glB sc x = true) : sc.names.lookup x = some .globalImplicit := by
  unfold glB at h
  split at h
  · rename_i q; exact q
  · cases h
/-- a local name at its slot -/
def varB (N : List Str) (sc : Scope) (i : Nat) (x : Str) : Bool := decide (N[i]? = some x) && (visB sc x && (!(x == ("__debug__" : Str)) && !(x == ("__classdict__" : Str))))
section
variable {X : Cx} {N : List Str} {sc : Scope} {fr : List Str} {g : GF} {W : WX} {a b c : Expr} {pos p2 p3 : Pos} {oa ob : Op} {ma mb : ME}
theorem Cn.hu1 (C : Cn X N sc fr) : X.A.units + 1 < cLine := by have := C.hu; omega
theorem Cn.hu0 (C : Cn X N sc fr) : X.A.units < cLine := by have := C.hu; omega
theorem Cn.hu64 (C : Cn X N sc fr) : X.A.units + 64 < cLine := by have := C.hu; omega
theorem Cn.hu65 (C : Cn X N sc fr) : X.A.units + 65 < cLine := by have := C.hu; omega
theorem pv_ok (C : Cn X N sc fr) {i : Nat} {x : Str} (h : varB N sc i x = true) : PE X (.Name x pos) (tVar i) := by
  unfold varB at h
  rw [Bool.and_eq_true, Bool.and_eq_true, Bool.and_eq_true, decide_eq_true_eq] at h
  obtain ⟨h1, h2, h3, h4⟩ := h
  exact pe_var (by rw [C.hN]; exact h1) (by rw [C.hsc]; exact visB_ok h2) (by simpa using h3) (by simpa using h4)
theorem gl_ok (C : Cn X N sc fr) {x : Str} (h : glB sc x = true) : Gl X x := by
  show X.env.scope.names.lookup x = _
  rw [C.hsc]; exact glB_ok h
abbrev SOp (X : Cx) (g : GF) (W : WX) (e : Expr) (o : Op) : Prop := PE X e (RdO (gOf X g) W o)
theorem SOp.v (C : Cn X N sc fr) {i : Nat} {x : Str} (h : varB N sc i x = true) : SOp X g W (.Name x pos) (.v i) := pv_ok C h
theorem SOp.e (h : SE X g W a ma) : SOp X g W a (.e ma) := h.z
/-! ### constants, names -/
def mC (d : D) : ME := fun e => .ok d e
theorem Tr.nil {F H F' H' : Hp} {O O' : Addr → Prop} (t : Tr F H O F' H' O') : Tr F H O F' H' (fun a => O' a ∨ a ∈ ([] : List Addr)) := t.drop fun _ z => z.elim id fun z => nomatch z
theorem RdE.const {G : GI} {W : WX} {d : D} {v : V} (r : ∀ F H, RO G F H [] v d) {σ : L2.St} {H : Hp} {Q : VK} (h : RdE G W (mC d) σ H Q) : Q v H := by
  obtain ⟨F, fp, e, s, h⟩ := h
  exact h v F H fp [] s (TO.z (r F H)) Tr.refl.nil
theorem se_int {i : Int} {j : Nat} : SE X g W (.Constant (.int i) j pos) (mC (.int i)) := PE.imp pe_int fun _ _ _ h => RdE.const (fun _ _ => .int i) h
theorem se_bl {i : Bool} {j : Nat} : SE X g W (.Constant (.bool i) j pos) (mC (.bl i)) := PE.imp pe_bl fun _ _ _ h => RdE.const (fun _ _ => .bl i) h
theorem se_non {j : Nat} : SE X g W (.Constant .none j pos) (mC .non) := PE.imp pe_non fun _ _ _ h => RdE.const (fun _ _ => .non) h
theorem se_str {i : Str} {j : Nat} : SE X g W (.Constant (.str i) j pos) (mC (.str i)) := PE.imp pe_str fun _ _ _ h => RdE.const (fun _ _ => .str i) h
/-- a name's value: shared from now on if it is not yet -/
def mV (i : Nat) : ME := fun e => match e[i]? with
  | some (some d) => if fz d = true then .ok d e else .ok (frz d) (e.set i (some (frz d)))
  | _ => .no
/-- a name's value handed on: the name is forgotten -/
def mMv (i : Nat) : ME := fun e => match e[i]? with
  | some (some d) => .ok d (e.set i none)
  | _ => .no
theorem se_v (C : Cn X N sc fr) {i : Nat} {x : Str} (h : varB N sc i x = true) : SE X g W (.Name x pos) (mV i) := PE.imp (pv_ok C h) fun σ H Q h => by
  obtain ⟨F, fp, e, s, h⟩ := RdE.iff.mp h
  unfold mV at h
  cases q : e[i]? with
  | none => rw [q] at h; exact h.elim
  | some o =>
    cases o with
    | none => rw [q] at h; exact h.elim
    | some d =>
      rw [q] at h
      obtain ⟨v, hv, r⟩ := s.rep i d q
      refine ⟨v, hv, ?_⟩
      simp only at h
      split at h
      · rename_i hf
        rw [r.nil_of_fz hf] at r
        exact h v F H fp [] s (TO.z r) Tr.refl.nil
      · have s2 := s.shareAt q
        exact h v _ H _ [] s2 (TO.z (r.frz (addF_le (s.sep i)) fun a z o => addF_at a z o)) (Tr.shareAt (s.sep i)).nil
theorem se_mv (C : Cn X N sc fr) {i : Nat} {x : Str} (h : varB N sc i x = true) : SE X g W (.Name x pos) (mMv i) := PE.imp (pv_ok C h) fun σ H Q h => by
  obtain ⟨F, fp, e, s, h⟩ := RdE.iff.mp h
  unfold mMv at h
  cases q : e[i]? with
  | none => rw [q] at h; exact h.elim
  | some o =>
    cases o with
    | none => rw [q] at h; exact h.elim
    | some d =>
      rw [q] at h
      obtain ⟨v, hv, t⟩ := s.take q
      exact ⟨v, hv, h v F H _ _ s.forget t (Tr.refl.drop own_take)⟩
/-! ### operators -/
theorem se_add (ha : SOp X g W a oa) (hb : SOp X g W b ob) : SE X g W (.BinOp a .Add b pos) (mOp2 addD oa ob) := PE.imp (pe_op (op_add.or (op_cat.or op_catA)) ha hb) fun _ _ _ h => rd_op2 (fun _ _ _ _ _ _ _ _ s r1 r2 h k => hr_add s r1 r2 h k) h
theorem se_sub (ha : SOp X g W a oa) (hb : SOp X g W b ob) : SE X g W (.BinOp a .Sub b pos) (mOp2 subD oa ob) := PE.imp (pe_op op_sub ha hb) fun _ _ _ h => rd_op2 (fun _ _ _ _ _ _ _ _ s r1 r2 h k => hr_sub s r1 r2 h k) h
theorem se_mul (ha : SOp X g W a oa) (hb : SOp X g W b ob) : SE X g W (.BinOp a .Mult b pos) (mOp2 mulD oa ob) := PE.imp (pe_op (op_mul.or (op_mulW.or op_rep)) ha hb) fun _ _ _ h => rd_op2 (fun _ _ _ _ _ _ _ _ s r1 r2 h k => hr_mul s r1 r2 h k) h
theorem se_fdiv (ha : SOp X g W a oa) (hb : SOp X g W b ob) : SE X g W (.BinOp a .FloorDiv b pos) (mOp2 fdivD oa ob) := PE.imp (pe_op op_fdivA ha hb) fun _ _ _ h => rd_op2 (fun _ _ _ _ _ _ _ _ s r1 r2 h k => hr_fdiv s r1 r2 h k) h
theorem se_mod (ha : SOp X g W a oa) (hb : SOp X g W b ob) : SE X g W (.BinOp a .Mod b pos) (mOp2 modD oa ob) := PE.imp (pe_op op_modN ha hb) fun _ _ _ h => rd_op2 (fun _ _ _ _ _ _ _ _ s r1 r2 h k => hr_mod s r1 r2 h k) h
theorem se_pow (ha : SOp X g W a oa) (hb : SOp X g W b ob) : SE X g W (.BinOp a .Pow b pos) (mOp2 powD oa ob) := PE.imp (pe_op op_pow ha hb) fun _ _ _ h => rd_op2 (fun _ _ _ _ _ _ _ _ s r1 r2 h k => hr_pow s r1 r2 h k) h
theorem se_neg (ha : SOp X g W a oa) : SE X g W (.UnaryOp .USub a pos) (mOp1 negD oa) := PE.imp (pe_un un_neg ha) fun _ _ _ h => rd_op1 (r := fun x H Q => rU (fun i => .int (-i)) x H Q) (fun _ _ _ _ _ _ s r1 h k => hr_neg s r1 h k) h
theorem se_lt (ha : SOp X g W a oa) (hb : SOp X g W b ob) : SE X g W (.Compare a [.Lt] [b] pos) (mOp2 (cmpD fun i j => decide (i < j)) oa ob) := PE.imp (pe_cmpR op_lt ha hb (nomark _)) fun _ _ _ h => rd_op2 (fun _ _ _ _ _ _ _ _ s r1 r2 h k => hr_cmp s r1 r2 h k) h
theorem se_le (ha : SOp X g W a oa) (hb : SOp X g W b ob) : SE X g W (.Compare a [.LtE] [b] pos) (mOp2 (cmpD fun i j => decide (i ≤ j)) oa ob) := PE.imp (pe_cmpR op_le ha hb (nomark _)) fun _ _ _ h => rd_op2 (fun _ _ _ _ _ _ _ _ s r1 r2 h k => hr_cmp s r1 r2 h k) h
theorem se_gt (ha : SOp X g W a oa) (hb : SOp X g W b ob) : SE X g W (.Compare a [.Gt] [b] pos) (mOp2 (cmpD fun i j => decide (j < i)) oa ob) := PE.imp (pe_cmpR op_gt ha hb (nomark _)) fun _ _ _ h => rd_op2 (fun _ _ _ _ _ _ _ _ s r1 r2 h k => hr_cmp s r1 r2 h k) h
theorem se_ge (ha : SOp X g W a oa) (hb : SOp X g W b ob) : SE X g W (.Compare a [.GtE] [b] pos) (mOp2 (cmpD fun i j => decide (j ≤ i)) oa ob) := PE.imp (pe_cmpR op_ge ha hb (nomark _)) fun _ _ _ h => rd_op2 (fun _ _ _ _ _ _ _ _ s r1 r2 h k => hr_cmp s r1 r2 h k) h
theorem se_eq (C : Cn X N sc fr) (ha : SOp X g W a oa) (hb : SOp X g W b ob) : SE X g W (.Compare a [.Eq] [b] pos) (mOp2 eqD oa ob) := PE.imp (pe_cmpR (op_eqD C.hu64) ha hb (nomark _)) fun _ _ _ h => rd_op2 (fun _ _ _ _ _ _ _ _ s r1 r2 h k => hr_eq s r1 r2 h k) h
theorem se_ne (C : Cn X N sc fr) (ha : SOp X g W a oa) (hb : SOp X g W b ob) : SE X g W (.Compare a [.NotEq] [b] pos) (mOp2 neD oa ob) := PE.imp (pe_cmpR (op_neD C.hu64) ha hb (nomark _)) fun _ _ _ h => rd_op2 (fun _ _ _ _ _ _ _ _ s r1 r2 h k => hr_ne s r1 r2 h k) h
theorem se_isN (ha : SOp X g W a oa) {j : Nat} : SE X g W (.Compare a [.Is] [.Constant .none j p2] pos) (mOp1 (fun d => some (.bl (isN d))) oa) := PE.imp (pe_cmp (pc_isN ha) rfl) fun _ _ _ h => rd_op1 (r := fun x H Q => Q (.bl (decide (x = .non))) H) (fun _ _ _ _ _ _ s r1 h k => hr_isN s r1 h k) h
theorem se_notN (ha : SOp X g W a oa) {j : Nat} : SE X g W (.Compare a [.IsNot] [.Constant .none j p2] pos) (mOp1 (fun d => some (.bl (!isN d))) oa) := PE.imp (pe_cmp (pc_notN ha) rfl) fun _ _ _ h => rd_op1 (r := fun x H Q => Q (.bl (!decide (x = .non))) H) (fun _ _ _ _ _ _ s r1 h k => hr_notN s r1 h k) h
theorem se_isB {k : Bool} (ha : SOp X g W a oa) {j : Nat} : SE X g W (.Compare a [.Is] [.Constant (.bool k) j p2] pos) (mOp1 (fun d => some (.bl (isB k d))) oa) := PE.imp (pe_cmpR (op_isC (b := k)) ha pe_bl (nomark _)) fun _ _ _ h =>
  rd_op1 (r := fun x H Q => V.bl k = V.bl k ∧ Q (.bl (decide (x = .bl k))) H) (fun _ _ _ _ _ _ s r1 h kk => ⟨rfl, by injection h with h; subst h; rw [isB_rep r1]; exact kk.z s (.bl _)⟩) h
theorem se_notB {k : Bool} (ha : SOp X g W a oa) {j : Nat} : SE X g W (.Compare a [.IsNot] [.Constant (.bool k) j p2] pos) (mOp1 (fun d => some (.bl (!isB k d))) oa) := PE.imp (pe_cmpR (op_isnotC (b := k)) ha pe_bl (nomark _)) fun _ _ _ h =>
  rd_op1 (r := fun x H Q => V.bl k = V.bl k ∧ Q (.bl (!decide (x = .bl k))) H) (fun _ _ _ _ _ _ s r1 h kk => ⟨rfl, by injection h with h; subst h; rw [isB_rep r1]; exact kk.z s (.bl _)⟩) h
def inB : D → D → Option D := fun a b => match inD a b with
  | some (.bl n) => some (.bl n)
  | _ => none
def notinB : D → D → Option D := fun a b => match inD a b with
  | some (.bl n) => some (.bl (!n))
  | _ => none
theorem inB_some {d1 d2 d : D} (h : inB d1 d2 = some d) : ∃ n, inD d1 d2 = some (.bl n) ∧ d = .bl n := by
  unfold inB at h
  split at h
  · rename_i n q; injection h with h; exact ⟨n, q, h.symm⟩
  · cases h
theorem notinB_some {d1 d2 d : D} (h : notinB d1 d2 = some d) : ∃ n, inD d1 d2 = some (.bl n) ∧ d = .bl (!n) := by
  unfold notinB at h
  split at h
  · rename_i n q; injection h with h; exact ⟨n, q, h.symm⟩
  · cases h
theorem se_in (C : Cn X N sc fr) (ha : SOp X g W a oa) (hb : SOp X g W b ob) (hm : behindInMarks .In b = false) : SE X g W (.Compare a [.In] [b] pos) (mOp2 inB oa ob) :=
  PE.imp (pe_cmpR ((op_inD C.hu65).or (op_in_seq.or (op_inDk C.hu1))) ha hb hm) fun _ _ _ h => rd_op2 (r := fun x y H Q => rInD X.K x y H Q ∨ rIn X.K false x y H Q ∨ ∃ a o, y = V.ref a ∧ DGet H a x o ∧ Q (V.bl o.isSome) H) (fun _ _ _ _ _ _ _ _ s r1 r2 h k => by
    obtain ⟨n, q, rfl⟩ := inB_some h
    have z := k.z s (.bl n)
    rcases hr_in s r1 r2 q with ⟨d, ds, h1, h2, h3, h4, h5⟩ | ⟨p, xs, h1, h2, h3, h4, h5⟩ | ⟨a, o, h1, h2, h3⟩
    · exact .inl ⟨d, ds, h1, h2, h3, h4, by rw [h5]; exact z⟩
    · exact .inr (.inl ⟨p, xs, h1, h2, h3, h4, by first | (rw [if_neg Bool.false_ne_true, h5]; exact z) | (rw [if_pos rfl, h5]; exact z)⟩)
    · exact .inr (.inr ⟨a, o, h1, h2, by rw [h3]; exact z⟩)) h
theorem se_notin (C : Cn X N sc fr) (ha : SOp X g W a oa) (hb : SOp X g W b ob) (hm : behindInMarks .NotIn b = false) : SE X g W (.Compare a [.NotIn] [b] pos) (mOp2 notinB oa ob) :=
  PE.imp (pe_cmpR ((op_notInD C.hu65).or (op_notIn_seq.or (op_notinDk C.hu1))) ha hb hm) fun _ _ _ h => rd_op2 (r := fun x y H Q => rNotInD X.K x y H Q ∨ rIn X.K true x y H Q ∨ ∃ a o, y = V.ref a ∧ DGet H a x o ∧ Q (V.bl !o.isSome) H) (fun _ _ _ _ _ _ _ _ s r1 r2 h k => by
    obtain ⟨n, q, rfl⟩ := notinB_some h
    have z := k.z s (.bl !n)
    rcases hr_in s r1 r2 q with ⟨d, ds, h1, h2, h3, h4, h5⟩ | ⟨p, xs, h1, h2, h3, h4, h5⟩ | ⟨a, o, h1, h2, h3⟩
    · exact .inl ⟨d, ds, h1, h2, h3, h4, by rw [h5]; exact z⟩
    · exact .inr (.inl ⟨p, xs, h1, h2, h3, h4, by first | (rw [if_neg Bool.false_ne_true, h5]; exact z) | (rw [if_pos rfl, h5]; exact z)⟩)
    · exact .inr (.inr ⟨a, o, h1, h2, by rw [h3]; exact z⟩)) h
theorem se_ix (C : Cn X N sc fr) (ha : SOp X g W a oa) (hb : SOp X g W b ob) (hs : PlainIx b) : SE X g W (.Subscript a b pos) (mOp2 ixD oa ob) :=
  PE.imp (pe_ix (ix_list.or (ix_tup.or (ix_dict C.hu1))) ha hb hs) fun _ _ _ h => rd_op2 (fun _ _ _ _ _ _ _ _ s r1 r2 h k => hr_ix s r1 r2 h k) h
/-! ### built-ins of one argument, of two -/
theorem se_b1 {id : String} {nm : Str} {r : List V → Hp → VK → Prop} {f : D → Option D} (C : Cn X N sc fr) (hc : CallR X (.builtin id) r) (hv : bootBuiltins nm = some (.builtin id)) (hn : nm ≠ "__name__") (hdb : (nm == ("__debug__" : Str)) = false)
    (hr : ∀ F H x d1 d Q, Sb F H → RB (gOf X g) F H x d1 → f d1 = some d → KR (gOf X g) F H d Q → r [x] H Q)
    (h1 : nm ∈ fr) (h2 : glB sc nm = true) (ha : SOp X g W a oa) (hs : starEach [a] X.env = (false, eval a X.env) :: starEach [] X.env) : SE X g W (.Call (.Name nm p2) [a] [] pos) (mOp1 f oa) :=
  PE.imp (pe_callB hc (gl_ok C h2) (C.hfr _ h1) hv (pa_cons ha pa_nil hs) hn hdb hs) fun _ _ _ h => rd_op1 (r := fun x H Q => r [x] H Q) (fun F H x d1 d Q s r1 h k => hr F H x d1 d Q s r1 h k) h
theorem se_t1 {id : String} {nm : Str} {r : List V → Hp → VK → Prop} {f : D → Option D} (C : Cn X N sc fr) (hc : CallR X (.type id) r) (hv : bootBuiltins nm = some (.type id)) (hn : nm ≠ "__name__") (hdb : (nm == ("__debug__" : Str)) = false)
    (hr : ∀ F H x d1 d Q, Sb F H → RB (gOf X g) F H x d1 → f d1 = some d → KR (gOf X g) F H d Q → r [x] H Q)
    (h1 : nm ∈ fr) (h2 : glB sc nm = true) (ha : SOp X g W a oa) (hs : starEach [a] X.env = (false, eval a X.env) :: starEach [] X.env) : SE X g W (.Call (.Name nm p2) [a] [] pos) (mOp1 f oa) :=
  PE.imp (pe_callTy hc (gl_ok C h2) (C.hfr _ h1) hv (pa_cons ha pa_nil hs) hn hdb hs) fun _ _ _ h => rd_op1 (r := fun x H Q => r [x] H Q) (fun F H x d1 d Q s r1 h k => hr F H x d1 d Q s r1 h k) h
theorem se_b2 {id : String} {nm : Str} {r : List V → Hp → VK → Prop} {f : D → D → Option D} (C : Cn X N sc fr) (hc : CallR X (.builtin id) r) (hv : bootBuiltins nm = some (.builtin id)) (hn : nm ≠ "__name__") (hdb : (nm == ("__debug__" : Str)) = false)
    (hr : ∀ F H x y d1 d2 d Q, Sb F H → RB (gOf X g) F H x d1 → RB (gOf X g) F H y d2 → f d1 d2 = some d → KR (gOf X g) F H d Q → r [x, y] H Q)
    (h1 : nm ∈ fr) (h2 : glB sc nm = true) (ha : SOp X g W a oa) (hb : SOp X g W b ob) (hs : starEach [a, b] X.env = (false, eval a X.env) :: starEach [b] X.env) (hs2 : starEach [b] X.env = (false, eval b X.env) :: starEach [] X.env) (hpl : (backTo pos (starEach [b] X.env)).any (·.1) = false) :
    SE X g W (.Call (.Name nm p2) [a, b] [] pos) (mOp2 f oa ob) :=
  PE.imp (pe_callB hc (gl_ok C h2) (C.hfr _ h1) hv (pa_cons ha (pa_cons hb pa_nil hs2) hs) hn hdb hs hpl) fun _ _ _ h => rd_op2 (r := fun x y H Q => r [x, y] H Q) (fun F H x y d1 d2 d Q s r1 r2 h k => hr F H x y d1 d2 d Q s r1 r2 h k) h
/-- isinstance(x, T) -/
theorem se_isi {T : Ty} (C : Cn X N sc fr) (h1 : ("isinstance" : Str) ∈ fr) (h2 : glB sc "isinstance" = true) (hT : ((Str.ofString T.nm) : Str) ∈ fr) (hT2 : glB sc (Str.ofString T.nm) = true) (ha : SOp X g W a oa)
    (hs : starEach [a, .Name (Str.ofString T.nm) p3] X.env = (false, eval a X.env) :: starEach [.Name (Str.ofString T.nm) p3] X.env) :
    SE X g W (.Call (.Name "isinstance" p2) [a, .Name (Str.ofString T.nm) p3] [] pos) (mOp1 (fun d => (isiD T d).map .bl) oa) := by
  have ht : PE X (.Name (Str.ofString T.nm) p3) (tC (.ty T.nm)) := by
    cases T
    · exact pe_bltn (gl_ok C hT2) (C.hfr _ hT) (u := .type "int") (by decide +kernel) rfl (by decide) (by decide)
    · exact pe_bltn (gl_ok C hT2) (C.hfr _ hT) (u := .type "bool") (by decide +kernel) rfl (by decide) (by decide)
    · exact pe_bltn (gl_ok C hT2) (C.hfr _ hT) (u := .type "tuple") (by decide +kernel) rfl (by decide) (by decide)
    · exact pe_bltn (gl_ok C hT2) (C.hfr _ hT) (u := .type "list") (by decide +kernel) rfl (by decide) (by decide)
    · exact pe_bltn (gl_ok C hT2) (C.hfr _ hT) (u := .type "str") (by decide +kernel) rfl (by decide) (by decide)
  refine PE.imp (pe_callB call_isi (gl_ok C h2) (C.hfr _ h1) (by decide +kernel) (pa_cons ha (pa_cons ht pa_nil rfl) hs) (by decide) (by decide) hs rfl) fun _ _ _ h => rd_op1 (r := fun x H Q => rIsi X.K [x, .ty T.nm] H Q) (fun F H x d1 d Q s r1 h k => ?_) h
  cases q : isiD T d1 with
  | none => rw [q] at h; cases h
  | some b =>
    rw [q] at h
    injection h with h; subst h
    exact hr_isi s r1 q (k.z s (.bl _))
end
end EV

/-! EvG: argument lists, displays, tests, choices. -/
namespace EV
open PySem PySem.Spec PyProof.Rows L2

/-! ### argument lists: values, and names that are lent -/
inductive PA1 where
  | t (d : D) | l (j : Nat)
inductive RA where
  | ok (as : List PA1) (e : DEnv) | ex (c : Nat) (d : D) (e : DEnv) | no
inductive Ar where
  | t (m : ME) | l (j : Nat)
def RA.cons (a : PA1) : RA → RA
  | .ok as e => .ok (a :: as) e
  | .ex c d e => .ex c d e
  | .no => .no
def mA : List Ar → DEnv → RA
  | [], e => .ok [] e
  | .t m :: r, e => match m e with
    | .ok d e1 => (mA r e1).cons (.t d)
    | .ex c d e1 => .ex c d e1
    | .no => .no
  | .l j :: r, e => match e[j]? with
    | some (some _) => (mA r e).cons (.l j)
    | _ => .no
inductive AR (G : GI) (F H : Hp) (σ : L2.St) : List Addr → List V → List PA1 → Prop
  | nil : AR G F H σ [] [] []
  | t {p q : List Addr} {v : V} {vs : List V} {d : D} {as : List PA1} : RO G F H p v d → AR G F H σ q vs as → AR G F H σ (p ++ q) (v :: vs) (.t d :: as)
  | l {q : List Addr} {v : V} {vs : List V} {j : Nat} {as : List PA1} : σ[j]? = some (some v) → AR G F H σ q vs as → AR G F H σ q (v :: vs) (.l j :: as)
theorem AR.mono {G : GI} {F H F' H' : Hp} {σ : L2.St} (hF : ∀ a o, F a = some o → F' a = some o) : ∀ {p : List Addr} {vs : List V} {as : List PA1}, AR G F H σ p vs as → (∀ a, a ∈ p → ∀ o, H a = some o → H' a = some o) → AR G F' H' σ p vs as
  | _, _, _, .nil, _ => .nil
  | _, _, _, .t r rs, h => .t (r.mono hF fun a z => h a (List.mem_append_left _ z)) (AR.mono hF rs fun a z => h a (List.mem_append_right _ z))
  | _, _, _, .l e rs, h => .l e (AR.mono hF rs h)
theorem AR.there {G : GI} {F H : Hp} {σ : L2.St} : ∀ {p : List Addr} {vs : List V} {as : List PA1}, AR G F H σ p vs as → ∀ a, a ∈ p → ∃ o, H a = some o
  | _, _, _, .nil, _, z => nomatch z
  | _, _, _, .t r rs, a, z => (List.mem_append.mp z).elim (r.there a) (AR.there rs a)
  | _, _, _, .l e rs, a, z => AR.there rs a z
structure AO (G : GI) (F H : Hp) (σ : L2.St) (fp : Nat → List Addr) (p : List Addr) (vs : List V) (as : List PA1) : Prop where
  r : AR G F H σ p vs as
  nd : p.Nodup
  sep : ∀ a, a ∈ p → F a = none
  dj : ∀ a, a ∈ p → ¬ own fp a
def AOut (G : GI) (W : WX) (σ : L2.St) (F H : Hp) (fp : Nat → List Addr) (Q : List V → Hp → Prop) : RA → Prop
  | .ok as e' => ∀ vs F' H' fp' p, SO G F' H' fp' σ e' → AO G F' H' σ fp' p vs as → Tr F H (own fp) F' H' (fun a => own fp' a ∨ a ∈ p) → Q vs H'
  | .ex c d e' => XOut G W σ F H fp c d e'
  | .no => False
def RdA (G : GI) (W : WX) (m : List Ar) : TA := fun σ H Q => ∃ F fp e, SO G F H fp σ e ∧ AOut G W σ F H fp Q (mA m e)
def RdAr (G : GI) (W : WX) : Ar → TE
  | .t m => RdE G W m
  | .l j => tVar j
section
variable {X : Cx} {N : List Str} {sc : Scope} {fr : List Str} {g : GF} {G : GI} {W : WX} {a b c : Expr} {es : List Expr} {pos p2 p3 : Pos} {oa ob : Op} {ma mb : ME} {F H F1 H1 : Hp} {fp : Nat → List Addr} {σ : L2.St} {e e' : DEnv}
abbrev SA (X : Cx) (g : GF) (W : WX) (es : List Expr) (m : List Ar) : Prop := PA X es (RdA (gOf X g) W m)
abbrev SAr (X : Cx) (g : GF) (W : WX) (e : Expr) (m : Ar) : Prop := PE X e (RdAr (gOf X g) W m)
theorem sa_nil : SA X g W [] [] := PA.imp pa_nil fun σ H Q ⟨F, fp, e, s, h⟩ => h [] F H fp [] s ⟨.nil, List.nodup_nil, fun _ z => (nomatch z), fun _ z => (nomatch z)⟩ Tr.refl.nil
theorem XOut.weak (h : XOut G W σ F H fp c' d' e') {P : Addr → Prop} : XOut G W σ F H fp c' d' e' := h
theorem sa_cons {m : Ar} {ms : List Ar} (ha : SAr X g W a m) (hr : SA X g W es ms) (hs : starEach (a :: es) X.env = (false, eval a X.env) :: starEach es X.env) : SA X g W (a :: es) (m :: ms) := PA.imp (pa_cons ha hr hs) fun σ H Q ⟨F, fp, e, s, h⟩ => by
  cases m with
  | t m =>
    have h : AOut (gOf X g) W σ F H fp Q (match m e with
      | .ok d e1 => (mA ms e1).cons (.t d)
      | .ex c d e1 => .ex c d e1
      | .no => .no) := h
    refine RdE.iff.mpr ⟨F, fp, e, s, ?_⟩
    cases q : m e with
    | ok d e1 =>
      rw [q] at h
      intro v F1 H1 fp1 p1 s1 t1 tr1
      refine ⟨F1, fp1, e1, s1, ?_⟩
      simp only at h
      cases q2 : mA ms e1 with
      | ok as e2 =>
        rw [q2] at h
        have h : AOut (gOf X g) W σ F H fp Q (.ok (.t d :: as) e2) := h
        intro vs F2 H2 fp2 p2 s2 t2 tr2
        have k1 := t1.keep tr2 fun c z => Or.inl z
        refine h (v :: vs) F2 H2 fp2 (p1 ++ p2) s2 ⟨.t k1.r t2.r, ?_, ?_, ?_⟩ ((tr1.trans (tr2.weak (P := fun c => own fp1 c ∨ c ∈ p1) (P1 := fun c => (own fp2 c ∨ c ∈ p2) ∨ c ∈ p1) (fun _ z => .inl z) fun c z => z.imp id .inr)).drop fun c z => ?_)
        · exact List.nodup_append.mpr ⟨t1.nd, t2.nd, fun x hx y hy z => t1.apart tr2 (q := p2) (fun c z => Or.inr z) x hx (z ▸ hy)⟩
        · exact fun c z => (List.mem_append.mp z).elim (k1.sep c) (t2.sep c)
        · exact fun c z => (List.mem_append.mp z).elim (k1.dj c) (t2.dj c)
        · rcases z with z | z
          · exact .inl (.inl z)
          · exact (List.mem_append.mp z).elim .inr fun z => .inl (.inr z)
      | ex c d2 e2 =>
        rw [q2] at h
        have h : XOut (gOf X g) W σ F H fp c d2 e2 := h
        intro dx v2 F2 H2 fp2 p2 s2 t2 tr2 hx
        exact h dx v2 F2 H2 fp2 p2 s2 t2 ((tr1.trans (tr2.weak (P := fun c => own fp1 c ∨ c ∈ p1) (P1 := fun c => (own fp2 c ∨ c ∈ p2) ∨ c ∈ p1) (fun _ z => .inl z) fun c z => z.imp id .inr)).drop fun c z => .inl z) hx
      | no => rw [q2] at h; exact h.elim
    | ex c d e1 => rw [q] at h; exact h
    | no => rw [q] at h; exact h
  | l j =>
    have h : AOut (gOf X g) W σ F H fp Q (match e[j]? with
      | some (some _) => (mA ms e).cons (.l j)
      | _ => .no) := h
    cases q : e[j]? with
    | none => rw [q] at h; exact h.elim
    | some o =>
      cases o with
      | none => rw [q] at h; exact h.elim
      | some d =>
        rw [q] at h
        simp only at h
        obtain ⟨v, hv, _⟩ := s.rep j d q
        refine ⟨v, hv, F, fp, e, s, ?_⟩
        cases q2 : mA ms e with
        | ok as e2 =>
          rw [q2] at h
          have h : AOut (gOf X g) W σ F H fp Q (.ok (.l j :: as) e2) := h
          intro vs F2 H2 fp2 p2 s2 t2 tr2
          exact h (v :: vs) F2 H2 fp2 p2 s2 ⟨.l hv t2.r, t2.nd, t2.sep, t2.dj⟩ tr2
        | ex c d2 e2 => rw [q2] at h; exact h
        | no => rw [q2] at h; exact h
/-! ### displays -/
def allT : List PA1 → Option (List D)
  | [] => some []
  | .t d :: r => (allT r).map (d :: ·)
  | .l _ :: _ => none
theorem AR.all {p : List Addr} : ∀ {as : List PA1} {vs : List V} {ds : List D}, AR G F H σ p vs as → allT as = some ds → ROs G F H p vs ds := by
  intro as vs ds r
  induction r generalizing ds with
  | nil => intro h; injection h with h; subst h; exact .nil
  | @t p q v vs d as r rs ih =>
    intro h
    have h2 : (allT as).map (d :: ·) = some ds := h
    cases q2 : allT as with
    | none => rw [q2] at h2; cases h2
    | some es => rw [q2] at h2; injection h2 with h2; subst h2; exact .cons r (ih q2)
  | l e rs ih => intro h; cases h
def RA.fin (r : RA) (k : List D → DEnv → RE) : RE := match r with
  | .ok as e => match allT as with
    | some ds => if ds.length ≤ LIM then k ds e else .no
    | none => .no
  | .ex c d e => .ex c d e
  | .no => .no
def mTup (ms : List Ar) : ME := fun e => (mA ms e).fin fun ds e1 => .ok (.tup ds) e1
def mLst (ms : List Ar) : ME := fun e => (mA ms e).fin fun ds e1 => .ok (.lst true ds) e1
theorem SO.new {a : Addr} {o : HO} (s : SO G F H fp σ e) (h : H a = none) : SO G F (upd H a o) fp σ e := s.grow (fun _ _ z => z) (upd_le h) (fun b u z => upd_le h b u (s.sub b u z)) fun b u z => .inl z
theorem SO.newF {a : Addr} {o : HO} (s : SO G F H fp σ e) (h : H a = none) : SO G (upd F a o) (upd H a o) fp σ e := s.grow (upd_le (by
    cases q : F a with
    | none => rfl
    | some o => rw [s.sub a o q] at h; cases h)) (upd_le h) (fun b u z => by
    by_cases e : b = a
    · subst e; rw [upd_same] at z ⊢; exact z
    · rw [upd_ne e] at z ⊢; exact s.sub b u z) fun b u z => by
    by_cases e : b = a
    · subst e; exact .inr h
    · rw [upd_ne e] at z; exact .inl z
theorem SO.fnone {a : Addr} (s : SO G F H fp σ e) (h : H a = none) : F a = none := by
  cases q : F a with
  | none => rfl
  | some o => rw [s.sub a o q] at h; cases h
theorem SO.noown {a : Addr} (s : SO G F H fp σ e) (h : H a = none) : ¬ own fp a := fun ⟨i, z⟩ => by
  obtain ⟨o, q⟩ := s.th i a z
  rw [h] at q; cases q
theorem Tr.newF {a : Addr} {o : HO} {O : Addr → Prop} (s : ∀ a o, F a = some o → H a = some o) (h : H a = none) : Tr F H O (upd F a o) (upd H a o) O where
  ff := upd_le (by
    cases q : F a with
    | none => rfl
    | some o => rw [s a o q] at h; cases h)
  fr := fun b u _ z => upd_le h b u z
  ow := fun _ z => .inl z
  fz := fun b u z => by
    by_cases e : b = a
    · subst e; exact .inr (.inr h)
    · rw [upd_ne e] at z; exact .inl z
theorem Tr.new {a : Addr} {o : HO} {O : Addr → Prop} (h : H a = none) : Tr F H O F (upd H a o) (fun c => O c ∨ c = a) where
  ff := fun _ _ z => z
  fr := fun b u _ z => upd_le h b u z
  ow := fun b z => by
    rcases z with z | z
    · exact .inl z
    · exact .inr (by rw [z]; exact h)
  fz := fun b u z => .inl z
theorem se_tup {ms : List Ar} {k : Nat} (ha : SA X g W es ms) : SE X g W (.Tuple es k pos) (mTup ms) := PE.imp (pe_tup ha) fun σ H Q h => by
  obtain ⟨F, fp, e, s, h⟩ := RdE.iff.mp h
  refine ⟨F, fp, e, s, ?_⟩
  unfold mTup at h
  cases q : mA ms e with
  | ok as e1 =>
    rw [q] at h
    have h : EOut (gOf X g) W σ F H fp Q (match allT as with
      | some ds => if ds.length ≤ LIM then RE.ok (.tup ds) e1 else .no
      | none => .no) := h
    cases q2 : allT as with
    | none => rw [q2] at h; exact h.elim
    | some ds =>
      rw [q2] at h
      simp only at h
      split at h
      · rename_i hl
        intro vs F1 H1 fp1 p s1 t tr
        have r := t.r.all q2
        refine ⟨by rw [r.length]; exact LIM_line hl, fun b hb => ?_⟩
        have s2 := s1.newF (o := .tup vs) hb
        have nb : ∀ c, c ∈ p → c ≠ b := fun c z w => by
          obtain ⟨o, ho⟩ := t.r.there c z
          rw [w, hb] at ho; cases ho
        refine h (.ref b) _ _ fp1 p s2 ⟨.tup upd_same (r.mono (upd_le (s1.fnone hb)) fun c _ o z => upd_le hb c o z), t.nd, fun c z => ?_, t.dj⟩ ?_
        · rw [upd_ne (nb c z)]; exact t.sep c z
        · exact tr.trans (Tr.newF s1.sub hb)
      · exact h.elim
  | ex c d e1 => rw [q] at h; exact h
  | no => rw [q] at h; exact h
theorem se_lst {ms : List Ar} (ha : SA X g W es ms) : SE X g W (.List es pos) (mLst ms) := PE.imp (pe_lst ha) fun σ H Q h => by
  obtain ⟨F, fp, e, s, h⟩ := RdE.iff.mp h
  refine ⟨F, fp, e, s, ?_⟩
  unfold mLst at h
  cases q : mA ms e with
  | ok as e1 =>
    rw [q] at h
    have h : EOut (gOf X g) W σ F H fp Q (match allT as with
      | some ds => if ds.length ≤ LIM then RE.ok (.lst true ds) e1 else .no
      | none => .no) := h
    cases q2 : allT as with
    | none => rw [q2] at h; exact h.elim
    | some ds =>
      rw [q2] at h
      simp only at h
      split at h
      · rename_i hl
        intro vs F1 H1 fp1 p s1 t tr
        have r := t.r.all q2
        refine ⟨by rw [r.length]; exact LIM_line hl, fun b hb => ?_⟩
        have s2 := s1.new (o := .lst vs) hb
        have nb : ∀ c, c ∈ p → c ≠ b := fun c z w => by
          obtain ⟨o, ho⟩ := t.r.there c z
          rw [w, hb] at ho; cases ho
        refine h (.ref b) _ _ fp1 (b :: p) s2 ⟨.lo upd_same (r.mono (fun _ _ z => z) fun c _ o z => upd_le hb c o z), List.nodup_cons.mpr ⟨fun z => nb b z rfl, t.nd⟩, fun c z => ?_, fun c z => ?_⟩ ?_
        · rcases List.mem_cons.mp z with w | w
          · rw [w]; exact s1.fnone hb
          · exact t.sep c w
        · rcases List.mem_cons.mp z with w | w
          · rw [w]; exact s1.noown hb
          · exact t.dj c w
        · refine (tr.trans (Tr.new hb)).drop fun c z => ?_
          rcases z with z | z
          · exact .inl (.inl z)
          · exact (List.mem_cons.mp z).elim .inr fun z => .inl (.inr z)
      · exact h.elim
  | ex c d e1 => rw [q] at h; exact h
  | no => rw [q] at h; exact h
/-! ### tests -/
def TOut (G : GI) (W : WX) (σ : L2.St) (F H : Hp) (fp : Nat → List Addr) (Q : Bool → Hp → Prop) : RE → Prop
  | .ok (.bl b) e' => ∀ F' H' fp', SO G F' H' fp' σ e' → Tr F H (own fp) F' H' (own fp') → Q b H'
  | .ok _ _ => False
  | .ex c d e' => XOut G W σ F H fp c d e'
  | .no => False
def RdT (G : GI) (W : WX) (m : ME) : TT := fun σ H Q => ∃ F fp e, SO G F H fp σ e ∧ TOut G W σ F H fp Q (m e)
abbrev ST (X : Cx) (g : GF) (W : WX) (e : Expr) (m : ME) : Prop := PT X e (RdT (gOf X g) W m)
/-- a value, by its truth -/
def mTru (oa : Op) : ME := mOp1 (fun d => (truD d).map .bl) oa
theorem st_tru (h : SOp X g W a oa) (he : ∀ whole, isTrue a X.env whole = (do let v ← whole; standAt a.pos; holding [v] (truthy v))) : ST X g W a (mTru oa) := PT.imp (pt_truth h he) fun σ H Q h => by
  obtain ⟨F, fp, e, s, h⟩ := h
  refine RdO.step oa s ?_
  unfold mTru mOp1 at h
  cases q : oa.run e with
  | ok p e1 =>
    rw [q] at h
    intro x F1 H1 fp1 s1 tr1 v1
    have hne : (p.see e1 fun d e2 => RE.of ((truD d).map .bl) e2) ≠ .no := fun z => by
      rw [RP.bind_ok, z] at h; exact h
    obtain ⟨d1, e2, F2, fp2, s2, b2, tr2, k⟩ := PV.see_ok s1 v1 rfl hne
    rw [RP.bind_ok, ← k] at h
    cases q3 : truD d1 with
    | none => rw [q3] at h; exact h.elim
    | some b =>
      rw [q3] at h
      exact ⟨b, hr_tru s2.sub b2 q3, h F2 H1 fp2 s2 (tr1.trans tr2)⟩
  | ex c d e1 => rw [q] at h; exact h
  | no => rw [q] at h; exact h
def mTNot (m : ME) : ME := fun e => match m e with
  | .ok (.bl b) e1 => .ok (.bl (!b)) e1
  | .ok _ _ => .no
  | .ex c d e1 => .ex c d e1
  | .no => .no
def mTAnd (m n : ME) : ME := fun e => match m e with
  | .ok (.bl true) e1 => n e1
  | .ok (.bl false) e1 => .ok (.bl false) e1
  | .ok _ _ => .no
  | .ex c d e1 => .ex c d e1
  | .no => .no
def mTOr (m n : ME) : ME := fun e => match m e with
  | .ok (.bl true) e1 => .ok (.bl true) e1
  | .ok (.bl false) e1 => n e1
  | .ok _ _ => .no
  | .ex c d e1 => .ex c d e1
  | .no => .no
/-- a choice -/
def mIf (t m n : ME) : ME := fun e => match t e with
  | .ok (.bl true) e1 => m e1
  | .ok (.bl false) e1 => n e1
  | .ok _ _ => .no
  | .ex c d e1 => .ex c d e1
  | .no => .no
variable {m n t : ME}
theorem TOut.trans {F1 H1 : Hp} {fp1 : Nat → List Addr} {Q : Bool → Hp → Prop} {r : RE} (h : TOut G W σ F H fp Q r) (t : Tr F H (own fp) F1 H1 (own fp1)) : TOut G W σ F1 H1 fp1 Q r := by
  cases r with
  | ok d e =>
    cases d with
    | bl b => exact fun F' H' fp' s' tr => h F' H' fp' s' (t.trans tr)
    | _ => exact h.elim
  | ex c d e => exact XOut.trans h t
  | no => exact h
theorem st_not (h : ST X g W a m) : ST X g W (.UnaryOp .Not a pos) (mTNot m) := PT.imp (pt_not h) fun σ H Q h => by
  obtain ⟨F, fp, e, s, h⟩ := h
  refine ⟨F, fp, e, s, ?_⟩
  unfold mTNot at h
  cases q : m e with
  | ok d e1 =>
    rw [q] at h
    cases d with
    | bl b => exact fun F' H' fp' s' tr => h F' H' fp' s' tr
    | _ => exact h.elim
  | ex c d e1 => rw [q] at h; exact h
  | no => rw [q] at h; exact h
theorem RdT.and {σ : L2.St} {H : Hp} {Q : Bool → Hp → Prop} (h : RdT G W (mTAnd m n) σ H Q) : tAnd (RdT G W m) (RdT G W n) σ H Q := by
  obtain ⟨F, fp, e, s, h⟩ := h
  refine ⟨F, fp, e, s, ?_⟩
  unfold mTAnd at h
  cases q : m e with
  | ok d e1 =>
    rw [q] at h
    cases d with
    | bl b =>
      intro F1 H1 fp1 s1 tr1
      cases b with
      | true => rw [if_pos rfl]; exact ⟨F1, fp1, e1, s1, TOut.trans h tr1⟩
      | false => rw [if_neg Bool.false_ne_true]; exact h F1 H1 fp1 s1 tr1
    | _ => exact h.elim
  | ex c d e1 => rw [q] at h; exact h
  | no => rw [q] at h; exact h
theorem RdT.or {σ : L2.St} {H : Hp} {Q : Bool → Hp → Prop} (h : RdT G W (mTOr m n) σ H Q) : tOr (RdT G W m) (RdT G W n) σ H Q := by
  obtain ⟨F, fp, e, s, h⟩ := h
  refine ⟨F, fp, e, s, ?_⟩
  unfold mTOr at h
  cases q : m e with
  | ok d e1 =>
    rw [q] at h
    cases d with
    | bl b =>
      intro F1 H1 fp1 s1 tr1
      cases b with
      | true => rw [if_pos rfl]; exact h F1 H1 fp1 s1 tr1
      | false => rw [if_neg Bool.false_ne_true]; exact ⟨F1, fp1, e1, s1, TOut.trans h tr1⟩
    | _ => exact h.elim
  | ex c d e1 => rw [q] at h; exact h
  | no => rw [q] at h; exact h
abbrev SW (X : Cx) (g : GF) (W : WX) (e : Expr) (m : ME) : Prop := PW X e (RdT (gOf X g) W m)
theorem PW.imp {X : Cx} {e : Expr} {t u : TT} (h : PW X e t) (i : ∀ σ H Q, u σ H Q → t σ H Q) : PW X e u := ⟨fun whole pins s σ H Q I q => h.run whole pins s σ H Q I (i σ H Q q)⟩
theorem sw_and1 (h : ST X g W a m) : SW X g W (.BoolOp .And [a] pos) m := pw_and1 h
theorem sw_or1 (h : ST X g W a m) : SW X g W (.BoolOp .Or [a] pos) m := pw_or1 h
theorem sw_and (h : ST X g W a m) (hb : SW X g W (.BoolOp .And (b :: es) pos) n) : SW X g W (.BoolOp .And (a :: b :: es) pos) (mTAnd m n) := PW.imp (pw_and h hb) fun _ _ _ h => RdT.and h
theorem sw_or (h : ST X g W a m) (hb : SW X g W (.BoolOp .Or (b :: es) pos) n) : SW X g W (.BoolOp .Or (a :: b :: es) pos) (mTOr m n) := PW.imp (pw_or h hb) fun _ _ _ h => RdT.or h
theorem RdE.choose {σ : L2.St} {H : Hp} {Q : VK} (h : RdE G W (mIf t m n) σ H Q) : tIf (RdT G W t) (RdE G W m) (RdE G W n) σ H Q := by
  obtain ⟨F, fp, e, s, h⟩ := RdE.iff.mp h
  refine ⟨F, fp, e, s, ?_⟩
  unfold mIf at h
  cases q : t e with
  | ok d e1 =>
    rw [q] at h
    cases d with
    | bl b =>
      intro F1 H1 fp1 s1 tr1
      cases b with
      | true => rw [if_pos rfl]; exact RdE.iff.mpr ⟨F1, fp1, e1, s1, EOut.trans h tr1⟩
      | false => rw [if_neg Bool.false_ne_true]; exact RdE.iff.mpr ⟨F1, fp1, e1, s1, EOut.trans h tr1⟩
    | _ => exact h.elim
  | ex c d e1 => rw [q] at h; exact h
  | no => rw [q] at h; exact h
theorem se_if (hc : ST X g W c t) (ha : SE X g W a m) (hb : SE X g W b n) : SE X g W (.IfExp c a b pos) (mIf t m n) := PE.imp (pe_ifExp hc ha hb) fun _ _ _ h => RdE.choose h
/-! ### and, or, not as values -/
/-- x and y: the first if it is false (its value shared), else the second -/
def mAnd (oa : Op) (n : ME) : ME := fun e => match oa.run e with
  | .ok p e1 => p.see e1 fun d e2 => match truD d with
    | some true => n e2
    | some false => if isV d then .ok d e2 else .no
    | none => .no
  | .ex c d e1 => .ex c d e1
  | .no => .no
where isV : D → Bool
  | .bl _ => true
  | .non => true
  | .int _ => true
  | _ => false
def mOr (oa : Op) (n : ME) : ME := fun e => match oa.run e with
  | .ok p e1 => p.see e1 fun d e2 => match truD d with
    | some true => if mAnd.isV d then .ok d e2 else .no
    | some false => n e2
    | none => .no
  | .ex c d e1 => .ex c d e1
  | .no => .no
theorem RB.toZ {v : V} {d : D} (r : RB G F H v d) (h : mAnd.isV d = true) : RO G F H [] v d := by
  cases r with
  | z r => exact r
  | _ => cases h
theorem se_and1 {op : BoolOp} (h : SE X g W a m) : SE X g W (.BoolOp op [a] pos) m := pe_one h
theorem se_and (ha : SOp X g W a oa) (hb : SE X g W (.BoolOp .And (b :: es) pos) n) : SE X g W (.BoolOp .And (a :: b :: es) pos) (mAnd oa n) := PE.imp (pe_andT ha hb) fun σ H Q h => by
  obtain ⟨F, fp, e, s, h⟩ := RdE.iff.mp h
  refine RdO.step oa s ?_
  unfold mAnd at h
  cases q : oa.run e with
  | ok p e1 =>
    rw [q] at h
    intro x F1 H1 fp1 s1 tr1 v1
    simp only at h
    obtain ⟨d1, e2, F2, fp2, s2, b2, tr2, k⟩ := PV.see_ok s1 v1 rfl h.ne
    rw [← k] at h
    cases q3 : truD d1 with
    | none => rw [q3] at h; exact h.elim
    | some b =>
      rw [q3] at h
      refine ⟨b, hr_tru s2.sub b2 q3, ?_⟩
      cases b with
      | true => rw [if_pos rfl]; exact RdE.iff.mpr ⟨F2, fp2, e2, s2, EOut.trans h (tr1.trans tr2)⟩
      | false =>
        rw [if_neg Bool.false_ne_true]
        simp only at h
        split at h
        · rename_i hv
          exact h x F2 H1 fp2 [] s2 (TO.z (b2.toZ hv)) (tr1.trans tr2).nil
        · exact h.elim
  | ex c d e1 => rw [q] at h; exact h
  | no => rw [q] at h; exact h
theorem se_or (ha : SOp X g W a oa) (hb : SE X g W (.BoolOp .Or (b :: es) pos) n) : SE X g W (.BoolOp .Or (a :: b :: es) pos) (mOr oa n) := PE.imp (pe_orT ha hb) fun σ H Q h => by
  obtain ⟨F, fp, e, s, h⟩ := RdE.iff.mp h
  refine RdO.step oa s ?_
  unfold mOr at h
  cases q : oa.run e with
  | ok p e1 =>
    rw [q] at h
    intro x F1 H1 fp1 s1 tr1 v1
    simp only at h
    obtain ⟨d1, e2, F2, fp2, s2, b2, tr2, k⟩ := PV.see_ok s1 v1 rfl h.ne
    rw [← k] at h
    cases q3 : truD d1 with
    | none => rw [q3] at h; exact h.elim
    | some b =>
      rw [q3] at h
      refine ⟨b, hr_tru s2.sub b2 q3, ?_⟩
      cases b with
      | true =>
        rw [if_pos rfl]
        simp only at h
        split at h
        · rename_i hv
          exact h x F2 H1 fp2 [] s2 (TO.z (b2.toZ hv)) (tr1.trans tr2).nil
        · exact h.elim
      | false => rw [if_neg Bool.false_ne_true]; exact RdE.iff.mpr ⟨F2, fp2, e2, s2, EOut.trans h (tr1.trans tr2)⟩
  | ex c d e1 => rw [q] at h; exact h
  | no => rw [q] at h; exact h
def mNot (oa : Op) : ME := mOp1 (fun d => (truD d).map fun b => .bl (!b)) oa
theorem se_not (ha : SOp X g W a oa) : SE X g W (.UnaryOp .Not a pos) (mNot oa) := PE.imp (pe_notT ha) fun σ H Q h => rd_op1 (r := fun x H Q => ∃ k, TruV X.K x H k ∧ Q (.bl (!k)) H) (fun F H x d1 d Q s r1 h k => by
  cases q : truD d1 with
  | none => rw [q] at h; cases h
  | some b =>
    rw [q] at h
    injection h with h; subst h
    exact ⟨b, hr_tru s r1 q, k.z s (.bl _)⟩) h
end
end EV

/-! EvH: statements. -/
namespace EV
open PySem PySem.Spec PyProof.Rows L2

def SOut (G : GI) (W : WX) (L : List Nat) (D : Ends) (σ : L2.St) (F H : Hp) (fp : Nat → List Addr) : RS → Prop
  | .nx e' => ∀ σ' F' H' fp', SO G F' H' fp' σ' e' → (∀ i, i ∈ L → σ'[i]? = σ[i]?) → Tr F H (own fp) F' H' (own fp') → D.nx σ' H'
  | .bk e' => ∀ σ' F' H' fp', SO G F' H' fp' σ' e' → (∀ i, i ∈ L → σ'[i]? = σ[i]?) → Tr F H (own fp) F' H' (own fp') → D.bk σ' H'
  | .ct e' => ∀ σ' F' H' fp', SO G F' H' fp' σ' e' → (∀ i, i ∈ L → σ'[i]? = σ[i]?) → Tr F H (own fp) F' H' (own fp') → D.ct σ' H'
  | .rt d e' => ∀ v σ' F' H' fp' p, SO G F' H' fp' σ' e' → (∀ i, i ∈ L → σ'[i]? = σ[i]?) → TO G F' H' fp' p v d → Tr F H (own fp) F' H' (fun a => own fp' a ∨ a ∈ p) → D.rt v H'
  | .ex c d e' => ∀ dx v σ' F' H' fp' p, SO G F' H' fp' σ' e' → (∀ i, i ∈ L → σ'[i]? = σ[i]?) → TO G F' H' fp' p v d → Tr F H (own fp) F' H' (fun a => own fp' a ∨ a ∈ p) → H' dx = some (.xd [(G.xn c, v)]) → W (.ref (G.ca c)) (some dx) σ' H'
  | .no => False
def RdS (G : GI) (W : WX) (L : List Nat) (m : MS) : TS := fun D σ H => ∃ F fp e, SO G F H fp σ e ∧ SOut G W L D σ F H fp (m e)
section
variable {X : Cx} {N : List Str} {sc : Scope} {fr : List Str} {g : GF} {G : GI} {W : WX} {L : List Nat} {a b c : Expr} {es : List Expr} {st : Stmt} {sts : List Stmt} {pos p2 p3 : Pos} {oa ob : Op} {m n t : ME} {ms ns : MS} {F H F1 H1 F' H' : Hp} {fp fp1 fp' : Nat → List Addr} {σ σ1 : L2.St} {e e' : DEnv} {D : Ends}
abbrev SS (X : Cx) (g : GF) (W : WX) (L : List Nat) (s : Stmt) (m : MS) : Prop := PS X s (RdS (gOf X g) W L m)
abbrev SSs (X : Cx) (g : GF) (W : WX) (L : List Nat) (s : List Stmt) (m : MS) : Prop := PSs X s (RdS (gOf X g) W L m)
theorem SOut.trans {r : RS} (h : SOut G W L D σ F H fp r) (t : Tr F H (own fp) F1 H1 (own fp1)) (hL : ∀ i, i ∈ L → σ1[i]? = σ[i]?) : SOut G W L D σ1 F1 H1 fp1 r := by
  cases r with
  | nx e => exact fun σ' F' H' fp' s' l' tr => h σ' F' H' fp' s' (fun i z => (l' i z).trans (hL i z)) (t.trans tr)
  | bk e => exact fun σ' F' H' fp' s' l' tr => h σ' F' H' fp' s' (fun i z => (l' i z).trans (hL i z)) (t.trans tr)
  | ct e => exact fun σ' F' H' fp' s' l' tr => h σ' F' H' fp' s' (fun i z => (l' i z).trans (hL i z)) (t.trans tr)
  | rt d e => exact fun v σ' F' H' fp' p s' l' t' tr => h v σ' F' H' fp' p s' (fun i z => (l' i z).trans (hL i z)) t' (t.trans tr)
  | ex c d e => exact fun dx v σ' F' H' fp' p s' l' t' tr hx => h dx v σ' F' H' fp' p s' (fun i z => (l' i z).trans (hL i z)) t' (t.trans tr) hx
  | no => exact h
theorem SOut.x {c : Nat} {d : EV.D} (h : SOut G W L D σ F H fp (.ex c d e')) : XOut G W σ F H fp c d e' := fun dx v F' H' fp' p s' t' tr hx => h dx v σ F' H' fp' p s' (fun _ _ => rfl) t' tr hx
/-- behind a value -/
def RE.toS (r : RE) (k : EV.D → DEnv → RS) : RS := match r with
  | .ok d e => k d e
  | .ex c d e => .ex c d e
  | .no => .no
@[simp] theorem RE.toS_ok {d e k} : (RE.ok d e).toS k = k d e := rfl
@[simp] theorem RE.toS_ex {c d e k} : (RE.ex c d e).toS k = .ex c d e := rfl
@[simp] theorem RE.toS_no {k} : RE.no.toS k = .no := rfl
def RS.seq (r : RS) (k : DEnv → RS) : RS := match r with
  | .nx e => k e
  | .rt d e => .rt d e
  | .bk e => .bk e
  | .ct e => .ct e
  | .ex c d e => .ex c d e
  | .no => .no
@[simp] theorem RS.seq_nx {e k} : (RS.nx e).seq k = k e := rfl
@[simp] theorem RS.seq_rt {d e k} : (RS.rt d e).seq k = .rt d e := rfl
@[simp] theorem RS.seq_bk {e k} : (RS.bk e).seq k = .bk e := rfl
@[simp] theorem RS.seq_ct {e k} : (RS.ct e).seq k = .ct e := rfl
@[simp] theorem RS.seq_ex {c d e k} : (RS.ex c d e).seq k = .ex c d e := rfl
@[simp] theorem RS.seq_no {k} : RS.no.seq k = .no := rfl
def mSeq (m n : MS) : MS := fun e => (m e).seq n
theorem sss_nil : SSs X g W L [] RS.nx := PSs.imp pss_nil fun D σ H ⟨F, fp, e, s, h⟩ => h σ F H fp s (fun _ _ => rfl) Tr.refl
theorem sss_cons (h1 : SS X g W L st ms) (h2 : SSs X g W L sts ns) : SSs X g W L (st :: sts) (mSeq ms ns) := PSs.imp (pss_cons h1 h2) fun D σ H ⟨F, fp, e, s, h⟩ => by
  refine ⟨F, fp, e, s, ?_⟩
  unfold mSeq at h
  cases q : ms e with
  | nx e1 =>
    rw [q] at h
    exact fun σ' F' H' fp' s' l' tr => ⟨F', fp', e1, s', SOut.trans h tr l'⟩
  | rt d e1 => rw [q] at h; exact h
  | bk e1 => rw [q] at h; exact h
  | ct e1 => rw [q] at h; exact h
  | ex c d e1 => rw [q] at h; exact h
  | no => rw [q] at h; exact h
theorem ss_pass : SS X g W L (.Pass pos) RS.nx := PS.imp ps_pass fun D σ H ⟨F, fp, e, s, h⟩ => h σ F H fp s (fun _ _ => rfl) Tr.refl
theorem ss_break : SS X g W L (.Break pos) RS.bk := PS.imp ps_break fun D σ H ⟨F, fp, e, s, h⟩ => h σ F H fp s (fun _ _ => rfl) Tr.refl
theorem ss_continue : SS X g W L (.Continue pos) RS.ct := PS.imp ps_continue fun D σ H ⟨F, fp, e, s, h⟩ => h σ F H fp s (fun _ _ => rfl) Tr.refl
/-- no comprehension stands as the whole value -/
def noComp : Expr → Bool
  | .ListComp .. => false
  | .SetComp .. => false
  | .DictComp .. => false
  | _ => true
theorem noSwap {v : Expr} (h : noComp v = true) {t : Option Expr} {l : Nat} {env : Env} : swapsWith v t l env = pure false := by
  cases v <;> first | rfl | cases h
def mExpr (m : ME) : MS := fun e => (m e).toS fun _ e1 => .nx e1
theorem ss_expr (h : SE X g W a m) (hc : noComp a = true) : SS X g W L (.Expr a pos) (mExpr m) := PS.imp (ps_expr h (noSwap hc)) fun D σ H ⟨F, fp, e, s, h⟩ => by
  refine RdE.iff.mpr ⟨F, fp, e, s, ?_⟩
  unfold mExpr at h
  cases q : m e with
  | ok d e1 =>
    rw [q] at h
    exact fun v F' H' fp' p s' t' tr => h σ F' H' fp' s' (fun _ _ => rfl) (tr.drop fun c z => .inl z)
  | ex c d e1 => rw [q] at h; exact h.x
  | no => rw [q] at h; exact h
def mRet (m : ME) : MS := fun e => (m e).toS fun d e1 => .rt d e1
theorem ss_ret (h : SE X g W a m) : SS X g W L (.Return (some a) pos) (mRet m) := PS.imp (ps_ret h) fun D σ H ⟨F, fp, e, s, h⟩ => by
  refine RdE.iff.mpr ⟨F, fp, e, s, ?_⟩
  unfold mRet at h
  cases q : m e with
  | ok d e1 =>
    rw [q] at h
    exact fun v F' H' fp' p s' t' tr => h v σ F' H' fp' p s' (fun _ _ => rfl) t' tr
  | ex c d e1 => rw [q] at h; exact h.x
  | no => rw [q] at h; exact h
def mRetN : MS := fun e => .rt .non e
theorem ss_retN : SS X g W L (.Return none pos) mRetN := PS.imp ps_retN fun D σ H ⟨F, fp, e, s, h⟩ => h .non σ F H fp [] s (fun _ _ => rfl) (TO.z .non) Tr.refl.nil
def mIfS (t : ME) (m n : MS) : MS := fun e => match t e with
  | .ok (.bl true) e1 => m e1
  | .ok (.bl false) e1 => n e1
  | .ok _ _ => .no
  | .ex c d e1 => .ex c d e1
  | .no => .no
theorem ss_if {sa sb : List Stmt} (hc : ST X g W c t) (ha : SSs X g W L sa ms) (hb : SSs X g W L sb ns) : SS X g W L (.If c sa sb pos) (mIfS t ms ns) := PS.imp (ps_if hc ha hb) fun D σ H ⟨F, fp, e, s, h⟩ => by
  refine ⟨F, fp, e, s, ?_⟩
  unfold mIfS at h
  cases q : t e with
  | ok d e1 =>
    rw [q] at h
    cases d with
    | bl b =>
      intro F1 H1 fp1 s1 tr1
      cases b with
      | true => rw [if_pos rfl]; exact ⟨F1, fp1, e1, s1, SOut.trans h tr1 fun _ _ => rfl⟩
      | false => rw [if_neg Bool.false_ne_true]; exact ⟨F1, fp1, e1, s1, SOut.trans h tr1 fun _ _ => rfl⟩
    | _ => exact h.elim
  | ex c d e1 => rw [q] at h; exact h.x
  | no => rw [q] at h; exact h
/-! ### targets -/
inductive CT where
  | v (i : Nat) | t (ts : List CT)
mutual
def put : CT → EV.D → DEnv → Option DEnv
  | .v i, d, e => some (e.set i (some d))
  | .t ts, d, e => match d with
    | .tup ds => puts ts ds e
    | _ => none
def puts : List CT → List EV.D → DEnv → Option DEnv
  | [], [], e => some e
  | t :: ts, d :: ds, e => (put t d e).bind fun e1 => puts ts ds e1
  | _, _, _ => none
end
/-- what a target asks: v stored, the value's own parts go with it -/
def GOk (G : GI) (L : List Nat) (t : CT) (r : TG) : Prop := ∀ {F H fp σ e p v d e' Q}, SO G F H fp σ e → TO G F H fp p v d → put t d e = some e' →
  (∀ σ' fp', SO G F H fp' σ' e' → (∀ i, i ∈ L → σ'[i]? = σ[i]?) → (∀ a, own fp' a → own fp a ∨ a ∈ p) → Q σ' H) → r v σ H Q
def GsOk (G : GI) (L : List Nat) (ts : List CT) (r : TGs) : Prop := ∀ {F H fp σ e p vs ds e' Q}, SO G F H fp σ e → TOs G F H fp p vs ds → puts ts ds e = some e' →
  (∀ σ' fp', SO G F H fp' σ' e' → (∀ i, i ∈ L → σ'[i]? = σ[i]?) → (∀ a, own fp' a → own fp a ∨ a ∈ p) → Q σ' H) → r vs σ H Q
theorem gok_v {i : Nat} (hi : i ∉ L) : GOk G L (.v i) (gName i) := fun {F H fp σ e p v d e' Q} s t h k => by
  injection h with h; subst h
  refine k _ _ (s.store t) (fun j hj => ?_) own_store
  rw [List.getElem?_set_ne]
  intro z; subst z; exact hi hj
theorem gsok_nil : GsOk G L [] gNil := fun {F H fp σ e p vs ds e' Q} s t h k => by
  cases ds with
  | nil =>
    obtain ⟨e1, _⟩ := t.r.invN
    injection h with h; subst h
    exact ⟨e1, k σ fp s (fun _ _ => rfl) fun _ z => .inl z⟩
  | cons d ds => cases h
theorem gsok_cons {t : CT} {ts : List CT} {r : TG} {rs : TGs} (h1 : GOk G L t r) (h2 : GsOk G L ts rs) : GsOk G L (t :: ts) (gCons r rs) := fun {F H fp σ e p vs ds e' Q} s to h k => by
  cases ds with
  | nil => cases h
  | cons d ds =>
    have h : ((put t d e).bind fun e1 => puts ts ds e1) = some e' := h
    cases q : put t d e with
    | none => rw [q] at h; cases h
    | some e1 =>
      rw [q] at h
      have h : puts ts ds e1 = some e' := h
      obtain ⟨v, ws, f, fs, rfl, ep, r1, r2⟩ := to.r.invD
      subst ep
      obtain ⟨n1, n2, n3⟩ := List.nodup_append.mp to.nd
      refine ⟨v, ws, rfl, h1 s ⟨r1, n1, fun a z => to.sep a (List.mem_append_left _ z), fun a z => to.dj a (List.mem_append_left _ z)⟩ q fun σ1 fp1 s1 l1 o1 => ?_⟩
      refine h2 s1 ⟨r2, n2, fun a z => to.sep a (List.mem_append_right _ z), fun a z w => ?_⟩ h fun σ2 fp2 s2 l2 o2 => ?_
      · rcases o1 a w with w | w
        · exact to.dj a (List.mem_append_right _ z) w
        · exact n3 a w a z rfl
      · refine k σ2 fp2 s2 (fun i z => (l2 i z).trans (l1 i z)) fun a z => ?_
        rcases o2 a z with z | z
        · exact (o1 a z).imp id fun z => List.mem_append_left _ z
        · exact .inr (List.mem_append_right _ z)
theorem gok_t {K : PySem.W.Frag} (hK : G.K = K) {ts : List CT} {r : TGs} {n : Nat} (hn : ts.length = n) (h : GsOk G L ts r) : GOk G L (.t ts) (gTup K n r) := fun {F H fp σ e p v d e' Q} s to q k => by
  cases d with
  | tup ds =>
    have q : puts ts ds e = some e' := q
    have hl : ∀ (ts : List CT) (ds : List EV.D) (e e' : DEnv), puts ts ds e = some e' → ds.length = ts.length := by
      intro ts
      induction ts with
      | nil => intro ds e e' h; cases ds with
        | nil => rfl
        | cons _ _ => cases h
      | cons t ts ih =>
        intro ds e e' h
        cases ds with
        | nil => cases h
        | cons d ds =>
          have h : ((put t d e).bind fun e1 => puts ts ds e1) = some e' := h
          cases q : put t d e with
          | none => rw [q] at h; cases h
          | some e1 => rw [q] at h; exact congrArg (· + 1) (ih ds e1 e' h)
    cases to with
    | mk r nd sep dj =>
      cases r with
      | tup ea ra =>
        refine ⟨_, _, rfl, SqT.of (s.sub _ _ ea), ?_, h s ⟨ra, nd, sep, dj⟩ q k⟩
        rw [ra.length, hl ts ds e e' q, hn]
  | _ => cases q
/-- target = value -/
def mAsg (t : CT) (m : ME) : MS := fun e => (m e).toS fun d e1 => match put t d e1 with
  | some e2 => .nx e2
  | none => .no
theorem RdS.asg {t : CT} {r : TG} (hg : GOk G L t r) {σ : L2.St} {H : Hp} (h : RdS G W L (mAsg t m) D σ H) : RdE G W m σ H fun x H1 => r x σ H1 D.nx := by
  obtain ⟨F, fp, e, s, h⟩ := h
  refine RdE.iff.mpr ⟨F, fp, e, s, ?_⟩
  unfold mAsg at h
  cases q : m e with
  | ok d e1 =>
    rw [q] at h
    intro v F' H' fp' p s' t' tr
    rw [RE.toS_ok] at h
    cases q2 : put t d e1 with
    | none => rw [q2] at h; exact h.elim
    | some e2 =>
      rw [q2] at h
      exact hg s' t' q2 fun σ2 fp2 s2 l2 o2 => h σ2 F' H' fp2 s2 l2 (tr.drop fun c z => (o2 c z))
  | ex c d e1 => rw [q] at h; exact h.x
  | no => rw [q] at h; exact h
theorem ss_asg {tg : Expr} {t : CT} {r : TG} (h : SE X g W a m) (hg : PG X tg r) (hk : GOk (gOf X g) L t r) (hs : swapsWithSole [tg] a pos.line X.env = pure false) (hw : swappedStores [tg] a X.env = pure none)
    (h1 : (assignEach [tg] X.env).map (·.2) = [assign tg X.env]) : SS X g W L (.Assign [tg] a pos) (mAsg t m) := PS.imp (ps_asg h hg hs hw h1) fun D σ H h => RdS.asg hk h
theorem ss_set {i : Nat} {x : Str} (hN : X.N.Nodup) (hi : X.N[i]? = some x) (hx : Loc X.env.scope x) (h : SE X g W a m) (hL : i ∉ L) (hs : swapsWith a (some (.Name x p2)) pos.line X.env = pure false) (hf : X.fn x = true ∨ X.env.scope.names.lookup x = some .local) :
    SS X g W L (.Assign [.Name x p2] a pos) (mAsg (.v i) m) := PS.imp (ps_set hN hi hx h hs hf) fun D σ H h => RdS.asg (gok_v hL) h
/-- a, b = x, y: two names, three names -/
def mPar (is : List Nat) (ms : List Ar) : MS := fun e => match mA ms e with
  | .ok as e1 => match allT as with
    | some ds => match puts (is.map CT.v) ds e1 with
      | some e2 => .nx e2
      | none => .no
    | none => .no
  | .ex c d e1 => .ex c d e1
  | .no => .no
theorem RdS.par {is : List Nat} {ms : List Ar} {σ : L2.St} {H : Hp} (hL : ∀ i, i ∈ is → i ∉ L) (h : RdS G W L (mPar is ms) D σ H) :
    ∃ k : List V → Hp → Prop, RdA G W ms σ H k ∧ ∀ vs H1, k vs H1 → vs.length = is.length ∧ D.nx ((is.zip vs).foldl (fun s z => s.set z.1 (some z.2)) σ) H1 := by
  refine ⟨fun vs H1 => vs.length = is.length ∧ D.nx ((is.zip vs).foldl (fun s z => s.set z.1 (some z.2)) σ) H1, ?_, fun _ _ z => z⟩
  obtain ⟨F, fp, e, s, h⟩ := h
  refine ⟨F, fp, e, s, ?_⟩
  unfold mPar at h
  cases q : mA ms e with
  | ok as e1 =>
    rw [q] at h
    simp only at h
    cases q2 : allT as with
    | none => rw [q2] at h; exact h.elim
    | some ds =>
      rw [q2] at h
      simp only at h
      cases q3 : puts (is.map CT.v) ds e1 with
      | none => rw [q3] at h; exact h.elim
      | some e2 =>
        rw [q3] at h
        simp only at h
        intro vs F1 H1 fp1 p s1 t tr
        have go : ∀ (is : List Nat), (∀ i, i ∈ is → i ∉ L) → ∀ (vs : List V) (ds : List EV.D) (p : List Addr) (fp1 : Nat → List Addr) (σ1 : L2.St) (e1 e2 : DEnv), SO G F1 H1 fp1 σ1 e1 → TOs G F1 H1 fp1 p vs ds → puts (is.map CT.v) ds e1 = some e2 →
            vs.length = is.length ∧ ∃ fp2, SO G F1 H1 fp2 ((is.zip vs).foldl (fun s z => s.set z.1 (some z.2)) σ1) e2 ∧ (∀ i, i ∈ L → ((is.zip vs).foldl (fun s z => s.set z.1 (some z.2)) σ1)[i]? = σ1[i]?) ∧ ∀ a, own fp2 a → own fp1 a ∨ a ∈ p := by
          intro is
          induction is with
          | nil =>
            intro _ vs ds p fp1 σ1 e1 e2 s1 t1 h
            cases ds with
            | nil =>
              obtain ⟨e1, _⟩ := t1.r.invN
              subst e1
              injection h with h; subst h
              exact ⟨rfl, fp1, s1, fun _ _ => rfl, fun _ z => .inl z⟩
            | cons _ _ => cases h
          | cons i is ih =>
            intro hL vs ds p fp1 σ1 e1 e2 s1 t1 h
            cases ds with
            | nil => cases h
            | cons d ds =>
              have h : puts (is.map CT.v) ds (e1.set i (some d)) = some e2 := h
              obtain ⟨v, ws, f, fs, rfl, ep, r1, r2⟩ := t1.r.invD
              subst ep
              obtain ⟨n1, n2, n3⟩ := List.nodup_append.mp t1.nd
              have s2 := s1.store (i := i) (p := f) (v := v) (d := d) ⟨r1, n1, fun a z => t1.sep a (List.mem_append_left _ z), fun a z => t1.dj a (List.mem_append_left _ z)⟩
              obtain ⟨h1, fp2, s3, h3, h4⟩ := ih (fun j z => hL j (List.mem_cons_of_mem _ z)) ws ds fs _ _ _ e2 s2 ⟨r2, n2, fun a z => t1.sep a (List.mem_append_right _ z), fun a z w => by
                rcases own_store a w with w | w
                · exact t1.dj a (List.mem_append_right _ z) w
                · exact n3 a w a z rfl⟩ h
              refine ⟨congrArg (· + 1) h1, fp2, s3, fun j z => (h3 j z).trans ?_, fun a z => ?_⟩
              · rw [List.getElem?_set_ne]
                intro w; subst w
                exact hL i (List.mem_cons_self ..) z
              · rcases h4 a z with z | z
                · exact (own_store a z).imp id fun z => List.mem_append_left _ z
                · exact .inr (List.mem_append_right _ z)
        obtain ⟨h1, fp2, s2, h3, h4⟩ := go is hL vs ds p fp1 σ e1 e2 s1 ⟨t.r.all q2, t.nd, t.sep, t.dj⟩ q3
        exact ⟨h1, h _ F1 H1 fp2 s2 h3 (tr.drop fun c z => h4 c z)⟩
  | ex c d e1 => rw [q] at h; exact h.x
  | no => rw [q] at h; exact h
theorem PAimp {σ : L2.St} {H : Hp} {ms : List Ar} {k k' : List V → Hp → Prop} (h : RdA G W ms σ H k) (hk : ∀ vs H1, k vs H1 → k' vs H1) : RdA G W ms σ H k' := by
  obtain ⟨F, fp, e, s, h⟩ := h
  refine ⟨F, fp, e, s, ?_⟩
  cases q : mA ms e with
  | ok as e1 => rw [q] at h; exact fun vs F1 H1 fp1 p s1 t tr => hk _ _ (h vs F1 H1 fp1 p s1 t tr)
  | ex c d e1 => rw [q] at h; exact h
  | no => rw [q] at h; exact h
theorem ss_par {i j : Nat} {x y : Str} {px py pt : Pos} {kt k2 : Nat} {pt2 : Pos} {ms : List Ar} (hc : X.calm = true) (hN : X.N.Nodup) (hi : X.N[i]? = some x) (hj : X.N[j]? = some y) (hij : i ≠ j) (hx : X.env.scope.names.lookup x = some .local) (hy : X.env.scope.names.lookup y = some .local)
    (ha : SA X g W [a, b] ms) (hw : swappedStores [.Tuple [.Name x px, .Name y py] kt pt] (.Tuple [a, b] k2 pt2) X.env = pure (some [x, y])) (hL : i ∉ L ∧ j ∉ L) :
    SS X g W L (.Assign [.Tuple [.Name x px, .Name y py] kt pt] (.Tuple [a, b] k2 pt2) pos) (mPar [i, j] ms) := PS.imp (L2.ps_par hc hN hi hj hij hx hy ha hw) fun D σ H h => by
  obtain ⟨k, h1, h2⟩ := RdS.par (is := [i, j]) (fun q z => by simp at z; rcases z with rfl | rfl; exact hL.1; exact hL.2) h
  refine PAimp h1 fun vs H1 z => ?_
  obtain ⟨h3, h4⟩ := h2 vs H1 z
  match vs, h3 with
  | [v, w], _ => exact ⟨v, w, rfl, h4⟩
theorem ss_par3 {i j l : Nat} {x y z : Str} {px py pz pt : Pos} {kt k2 : Nat} {pt2 : Pos} {ms : List Ar} (hc : X.calm = true) (hN : X.N.Nodup) (hi : X.N[i]? = some x) (hj : X.N[j]? = some y) (hl : X.N[l]? = some z) (hij : i ≠ j) (hil : i ≠ l) (hjl : j ≠ l) (hx : X.env.scope.names.lookup x = some .local) (hy : X.env.scope.names.lookup y = some .local) (hz : X.env.scope.names.lookup z = some .local)
    (ha : SA X g W [a, b, c] ms) (hw : swappedStores [.Tuple [.Name x px, .Name y py, .Name z pz] kt pt] (.Tuple [a, b, c] k2 pt2) X.env = pure (some [x, y, z])) (hL : i ∉ L ∧ j ∉ L ∧ l ∉ L) :
    SS X g W L (.Assign [.Tuple [.Name x px, .Name y py, .Name z pz] kt pt] (.Tuple [a, b, c] k2 pt2) pos) (mPar [i, j, l] ms) := PS.imp (L2.ps_par3 hc hN hi hj hl hij hil hjl hx hy hz ha hw) fun D σ H h => by
  obtain ⟨k, h1, h2⟩ := RdS.par (is := [i, j, l]) (fun q w => by simp at w; rcases w with rfl | rfl | rfl; exact hL.1; exact hL.2.1; exact hL.2.2) h
  refine PAimp h1 fun vs H1 z => ?_
  obtain ⟨h3, h4⟩ := h2 vs H1 z
  match vs, h3 with
  | [u, v, w], _ => exact ⟨u, v, w, rfl, h4⟩
end
end EV

/-! EvI: what is written: items of lists and dicts, append, pop. -/
namespace EV
open PySem PySem.Spec PyProof.Rows L2
section
variable {X : Cx} {N : List Str} {sc : Scope} {fr : List Str} {g : GF} {G : GI} {W : WX} {L : List Nat} {a b c : Expr} {es : List Expr} {st : Stmt} {sts : List Stmt} {pos p2 p3 p4 : Pos} {oa ob : Op} {m n t : ME} {ms ns : MS} {F H F1 H1 F' H' : Hp} {fp fp1 fp' : Nat → List Addr} {σ σ1 : L2.St} {e e' : DEnv} {D : Ends}
/-- a slot's own thing is written -/
theorem SO.mutate {k : Nat} {d0 d1 : EV.D} {v : V} {p q : List Addr} (s : SO G F H fp σ e) (h : e[k]? = some (some d0)) (hv : σ[k]? = some (some v)) (hp : ∀ a, a ∈ p → F a = none ∧ ¬ own fp a)
    (hH : ∀ b o, b ∉ fp k → H b = some o → H' b = some o) (r : RO G F H' q v d1) (nd : q.Nodup) (sub : ∀ a, a ∈ q → a ∈ fp k ∨ a ∈ p) : SO G F H' (fun j => if j = k then q else fp j) σ (e.set k (some d1)) where
  sub := fun b o z => hH b o (fun w => by rw [s.sep k b w] at z; cases z) (s.sub b o z)
  rep := fun j x hx => by
    by_cases hj : j = k
    · subst hj
      have hl : j < e.length := (List.getElem?_eq_some_iff.mp h).1
      rw [List.getElem?_set_self hl] at hx
      cases hx
      exact ⟨v, hv, by rw [if_pos rfl]; exact r⟩
    · rw [List.getElem?_set_ne (Ne.symm hj)] at hx
      obtain ⟨w, h1, r1⟩ := s.rep j x hx
      exact ⟨w, h1, by rw [if_neg hj]; exact r1.mono (fun _ _ z => z) fun b z o => hH b o fun w => hj (s.dj j k b z w)⟩
  nd := fun j => by
    split
    · exact nd
    · exact s.nd j
  dj := fun i j b h1 h2 => by
    split at h1
    · rename_i hi
      split at h2
      · rename_i hj; rw [hi, hj]
      · rename_i hj
        rcases sub b h1 with z | z
        · exact absurd (s.dj k j b z h2) (Ne.symm hj)
        · exact absurd ⟨j, h2⟩ (hp b z).2
    · rename_i hi
      split at h2
      · rcases sub b h2 with z | z
        · exact absurd (s.dj i k b h1 z) hi
        · exact absurd ⟨i, h1⟩ (hp b z).2
      · exact s.dj i j b h1 h2
  sep := fun j b z => by
    split at z
    · rcases sub b z with z | z
      · exact s.sep k b z
      · exact (hp b z).1
    · exact s.sep j b z
  th := fun j b z => by
    split at z
    · exact r.there b z
    · rename_i hj
      obtain ⟨o, ho⟩ := s.th j b z
      exact ⟨o, hH b o (fun w => hj (s.dj j k b z w)) ho⟩
  len := by rw [List.length_set]; exact s.len
theorem Tr.mutate {k : Nat} {p q : List Addr} {O : Addr → Prop} (hH : ∀ b o, b ∉ fp k → H b = some o → H' b = some o) (sub : ∀ a, a ∈ q → a ∈ fp k ∨ a ∈ p) : Tr F H (fun a => own fp a ∨ a ∈ p) F H' (own fun j => if j = k then q else fp j) where
  ff := fun _ _ z => z
  fr := fun b o n z => hH b o (fun w => n (.inl ⟨k, w⟩)) z
  ow := fun b ⟨j, z⟩ => by
    dsimp only at z
    split at z
    · exact .inl ((sub b z).imp (fun z => ⟨k, z⟩) id)
    · exact .inl (.inl ⟨j, z⟩)
  fz := fun _ _ z => .inl z
theorem ROs.put {p : List Addr} {v : V} {d : EV.D} (r : RO G F H p v d) : ∀ {j : Nat} {fs : List Addr} {vs : List V} {ds : List EV.D}, ROs G F H fs vs ds → j < ds.length → fs.Nodup → p.Nodup → (∀ a, a ∈ fs → a ∈ p → False) →
    ∃ q, ROs G F H q (vs.set j v) (ds.set j d) ∧ q.Nodup ∧ ∀ a, a ∈ q → a ∈ fs ∨ a ∈ p
  | _, _, _, [], _, h, _, _, _ => nomatch h
  | 0, _, _, _ :: _, rs, _, n1, n2, n3 => by
    obtain ⟨w, ws, f, fs, rfl, rfl, r1, r2⟩ := rs.invD
    obtain ⟨m1, m2, m3⟩ := List.nodup_append.mp n1
    refine ⟨p ++ fs, .cons r r2, List.nodup_append.mpr ⟨n2, m2, fun x hx y hy z => n3 y (List.mem_append_right _ hy) (z ▸ hx)⟩, fun a z => ?_⟩
    exact (List.mem_append.mp z).elim .inr fun z => .inl (List.mem_append_right _ z)
  | j + 1, _, _, x :: ds, rs, h, n1, n2, n3 => by
    obtain ⟨w, ws, f, fs, rfl, rfl, r1, r2⟩ := rs.invD
    obtain ⟨m1, m2, m3⟩ := List.nodup_append.mp n1
    obtain ⟨q, h1, h2, h3⟩ := ROs.put r (j := j) r2 (by simpa using h) m2 n2 fun a z => n3 a (List.mem_append_right _ z)
    refine ⟨f ++ q, .cons r1 h1, List.nodup_append.mpr ⟨m1, h2, fun x hx y hy z => ?_⟩, fun a z => ?_⟩
    · subst z
      rcases h3 x hy with w | w
      · exact m3 x hx x w rfl
      · exact n3 x (List.mem_append_left _ hx) w
    · rcases List.mem_append.mp z with z | z
      · exact .inl (List.mem_append_left _ z)
      · exact (h3 a z).imp (fun z => List.mem_append_right _ z) id
/-- a name's own list -/
theorem RO.lo_inv {p : List Addr} {v : V} {ds : List EV.D} (r : RO G F H p v (.lst true ds)) : ∃ a vs fs, v = .ref a ∧ p = a :: fs ∧ H a = some (.lst vs) ∧ ROs G F H fs vs ds := by
  cases r with
  | lo e r => exact ⟨_, _, _, rfl, rfl, e, r⟩
theorem RO.dko_inv {p : List Addr} {v : V} {ds : List (Key × EV.D)} (r : RO G F H p v (.dk true ds)) : ∃ a kvs, v = .ref a ∧ p = [a] ∧ H a = some (.dK kvs) ∧ kvs.map (·.1) = ds.map (·.1) ∧ ROs G F H [] (kvs.map (·.2)) (ds.map (·.2)) := by
  cases r with
  | dko e k r => exact ⟨_, _, rfl, rfl, e, k, r⟩
theorem RO.dto_inv {p : List Addr} {v : V} {ds : List (List Key × EV.D)} (r : RO G F H p v (.dt true ds)) : ∃ a kvs, v = .ref a ∧ p = [a] ∧ H a = some (.dT kvs) ∧ kvs.map (·.1) = ds.map (·.1) ∧ ROs G F H [] (kvs.map (·.2)) (ds.map (·.2)) := by
  cases r with
  | dto e k r => exact ⟨_, _, rfl, rfl, e, k, r⟩
/-- a dict's entry put -/
def putD {κ : Type} [DecidableEq κ] (kds : List (κ × EV.D)) (k : κ) (d : EV.D) : List (κ × EV.D) :=
  if (kds.any fun kv => decide (kv.1 = k)) then kds.map fun kv => if kv.1 = k then (kv.1, d) else kv else kds ++ [(k, d)]
/-- what becomes of a list or a dict where an item is stored -/
def setD : EV.D → EV.D → EV.D → Option EV.D
  | .lst true xs, .int i, d => (ixN xs.length i).map fun j => .lst true (xs.set j d)
  | .dk true kds, k, d => (keyD k).bind fun k => if kds.length < LIM then some (.dk true (putD kds k (frz d))) else none
  | .dt true kds, .tup ks, d => (keysD ks).bind fun k => if kds.length < LIM then some (.dt true (putD kds k (frz d))) else none
  | _, _, _ => none
theorem any_keys {κ : Type} [DecidableEq κ] (k : κ) : ∀ {kvs : List (κ × V)} {kds : List (κ × EV.D)}, kvs.map (·.1) = kds.map (·.1) → (kvs.any fun kv => decide (kv.1 = k)) = kds.any fun kv => decide (kv.1 = k)
  | [], [], _ => rfl
  | [], _ :: _, h => by cases h
  | _ :: _, [], h => by cases h
  | a :: kvs, b :: kds, h => by
    have h1 : a.1 = b.1 ∧ kvs.map (·.1) = kds.map (·.1) := by simpa using h
    show (decide (a.1 = k) || kvs.any _) = (decide (b.1 = k) || kds.any _)
    rw [h1.1, any_keys k h1.2]
theorem map_keys {κ : Type} [DecidableEq κ] (k : κ) {v : V} {d : EV.D} (r : RO G F H [] v d) : ∀ {kvs : List (κ × V)} {kds : List (κ × EV.D)}, kvs.map (·.1) = kds.map (·.1) → ROs G F H [] (kvs.map (·.2)) (kds.map (·.2)) →
    (kvs.map fun kv => if kv.1 = k then (kv.1, v) else kv).map (·.1) = (kds.map fun kv => if kv.1 = k then (kv.1, d) else kv).map (·.1) ∧
    ROs G F H [] ((kvs.map fun kv => if kv.1 = k then (kv.1, v) else kv).map (·.2)) ((kds.map fun kv => if kv.1 = k then (kv.1, d) else kv).map (·.2))
  | [], [], _, _ => ⟨rfl, .nil⟩
  | [], _ :: _, h, _ => by cases h
  | _ :: _, [], h, _ => by cases h
  | a :: kvs, b :: kds, h, rs => by
    have h1 : a.1 = b.1 ∧ kvs.map (·.1) = kds.map (·.1) := by simpa using h
    obtain ⟨r1, r2⟩ := rs.unconsZ
    obtain ⟨h2, h3⟩ := map_keys k r h1.2 r2
    simp only [List.map_cons]
    by_cases e : b.1 = k
    · rw [if_pos (h1.1.trans e), if_pos e]
      exact ⟨by rw [h2, h1.1], ROs.consZ r h3⟩
    · rw [if_neg (fun z => e (h1.1.symm.trans z)), if_neg e]
      exact ⟨by rw [h2, h1.1], ROs.consZ r1 h3⟩
theorem putD_rep {κ : Type} [DecidableEq κ] (k : κ) {v : V} {d : EV.D} (r : RO G F H [] v d) {kvs : List (κ × V)} {kds : List (κ × EV.D)} (h : kvs.map (·.1) = kds.map (·.1)) (rs : ROs G F H [] (kvs.map (·.2)) (kds.map (·.2))) :
    (putK kvs k v).map (·.1) = (putD kds k d).map (·.1) ∧ ROs G F H [] ((putK kvs k v).map (·.2)) ((putD kds k d).map (·.2)) := by
  have e : putK kvs k v = if (kvs.any fun kv => decide (kv.1 = k)) then kvs.map fun kv => if kv.1 = k then (kv.1, v) else kv else kvs ++ [(k, v)] := rfl
  rw [e]
  unfold putD
  rw [any_keys k h]
  split
  · exact map_keys k r h rs
  · rw [List.map_append, List.map_append, List.map_append, List.map_append, h]
    exact ⟨rfl, (rs.append (ROs.one r)).cast rfl⟩
/-- o[i] = v by values: a list, a dict -/
theorem set_any (hu : X.A.units + 1 < cLine) : PSet X (fun o i v H Q => rSetL o i v H Q ∨ ∃ a H', o = .ref a ∧ DPut H a i v H' ∧ Q H') := by
  intro pins s σ H o i v ov iv u Q I ro ri rv h
  rcases h with h | ⟨a, H', rfl, hp, q⟩
  · exact set_list pins s σ H o i v ov iv u Q I ro ri rv h
  · cases (show ov = Value.ref a from ro)
    exact d_setItem hu I hp ri rv fun s' I' => ⟨H', I', q⟩
theorem set_ok {k : Nat} {d0 d1 di d : EV.D} {v x y : V} {p : List Addr} {Q : Hp → Prop} (s : SO G F H fp σ e) (h : e[k]? = some (some d0)) (hv : σ[k]? = some (some x)) (t : TO G F H fp p v d) (ri : RB G F H y di) (hd : setD d0 di d = some d1)
    (q : ∀ F' H' fp', SO G F' H' fp' σ (e.set k (some d1)) → Tr F H (fun a => own fp a ∨ a ∈ p) F' H' (own fp') → Q H') : rSetL x y v H Q ∨ ∃ a H', x = .ref a ∧ DPut H a y v H' ∧ Q H' := by
  obtain ⟨x', hx', r⟩ := s.rep k d0 h
  rw [hv] at hx'
  cases hx'
  cases d0 with
  | lst o xs =>
    cases o with
    | false => cases hd
    | true =>
      cases di <;> first | (cases hd; done) | skip
      rename_i i
      have hd : (ixN xs.length i).map (fun j => EV.D.lst true (xs.set j d)) = some d1 := hd
      cases qj : ixN xs.length i with
      | none => rw [qj] at hd; cases hd
      | some j =>
        rw [qj] at hd
        injection hd with hd; subst hd
        obtain ⟨a, vs, fs, rfl, ep, ha, rs⟩ := r.lo_inv
        have nd := s.nd k
        rw [ep] at nd
        obtain ⟨n1, n2⟩ := List.nodup_cons.mp nd
        have own_fs : ∀ c, c ∈ fs → own fp c := fun c z => ⟨k, by rw [ep]; exact List.mem_cons_of_mem _ z⟩
        have own_a : own fp a := ⟨k, by rw [ep]; exact List.mem_cons_self ..⟩
        obtain ⟨w, h1, h2, h3⟩ := ROs.put t.r (j := j) rs (ixN_seq qj).2.1 n2 t.nd fun c z w => t.dj c w (own_fs c z)
        have hH : ∀ b o, b ∉ fp k → H b = some o → upd H a (.lst (vs.set j v)) b = some o := fun b o z w => by
          rw [upd_ne]
          · exact w
          · intro u; subst u; rw [ep] at z; exact z (List.mem_cons_self ..)
        have na : a ∉ w := fun z => by
          rcases h3 a z with z | z
          · exact n1 z
          · exact t.dj a z own_a
        have sub : ∀ c, c ∈ (a :: w) → c ∈ fp k ∨ c ∈ p := fun c z => by
          rcases List.mem_cons.mp z with z | z
          · rw [z, ep]; exact .inl (List.mem_cons_self ..)
          · exact (h3 c z).imp (fun z => by rw [ep]; exact List.mem_cons_of_mem _ z) id
        refine .inl ⟨a, vs, i, j, rfl, ri.int_inv, ha, by rw [rs.length]; exact qj, q F _ _ (s.mutate h hv (fun c z => ⟨t.sep c z, t.dj c z⟩) hH (.lo upd_same (h1.mono (fun _ _ z => z) fun c z o u => ?_)) (List.nodup_cons.mpr ⟨na, h2⟩) sub) (Tr.mutate (O := fun _ => True) hH sub)⟩
        rw [upd_ne]
        · exact u
        · intro z2; subst z2; exact na z
  | dk o kds =>
    cases o with
    | false => cases di <;> cases hd
    | true =>
      have hd : ((keyD di).bind fun k => if kds.length < LIM then some (EV.D.dk true (putD kds k (frz d))) else none) = some d1 := by
        cases di <;> exact hd
      cases qk : keyD di with
      | none => rw [qk] at hd; cases hd
      | some key =>
        rw [qk] at hd
        have hd : (if kds.length < LIM then some (EV.D.dk true (putD kds key (frz d))) else none) = some d1 := hd
        split at hd
        · rename_i hl
          injection hd with hd; subst hd
          obtain ⟨a, kvs, rfl, ep, ha, hk, rs⟩ := r.dko_inv
          have s2 := s.share t.sep t.dj
          have hlen : kvs.length = kds.length := by
            have := congrArg List.length hk
            simpa using this
          obtain ⟨h1, h2⟩ := putD_rep key t.share hk (rs.monoZ (addF_le t.sep))
          have hH : ∀ b o, b ∉ fp k → H b = some o → upd H a (.dK (putK kvs key v)) b = some o := fun b o z w => by
            rw [upd_ne]
            · exact w
            · intro u; subst u; rw [ep] at z; exact z (List.mem_cons_self ..)
          refine .inr ⟨a, _, rfl, ?_, q _ _ _ (s2.mutate (p := []) (q := [a]) (H' := upd H a (.dK (putK kvs key v))) h hv (fun c z => nomatch z) hH (.dko upd_same h1 (h2.monoZ fun _ _ z => z)) (by simp) fun c z => .inl (by rw [ep]; exact z)) ((Tr.share (O := own fp) t.sep).trans ((Tr.mutate (p := []) (q := [a]) (O := fun _ => True) hH fun c z => .inl (by rw [ep]; exact z)).weak (fun c z => z.elim id fun z => nomatch z) fun c z => .inl z))⟩
          rw [keyD_rep ri qk]
          exact DPut.k ha (by rw [hlen]; exact LIM_lineS (Nat.le_of_lt hl))
        · cases hd
  | dt o kds =>
    cases o with
    | false => cases di <;> cases hd
    | true =>
      cases di <;> first | (cases hd; done) | skip
      rename_i ks
      have hd : ((keysD ks).bind fun k => if kds.length < LIM then some (EV.D.dt true (putD kds k (frz d))) else none) = some d1 := hd
      cases qk : keysD ks with
      | none => rw [qk] at hd; cases hd
      | some key =>
        rw [qk] at hd
        have hd : (if kds.length < LIM then some (EV.D.dt true (putD kds key (frz d))) else none) = some d1 := hd
        split at hd
        · rename_i hl
          injection hd with hd; subst hd
          obtain ⟨a, kvs, rfl, ep, ha, hk, rs⟩ := r.dto_inv
          obtain ⟨b, us, rfl, hb, rb⟩ := ri.tup_inv
          rw [keysD_rep rb qk] at hb
          have s2 := s.share t.sep t.dj
          have hlen : kvs.length = kds.length := by
            have := congrArg List.length hk
            simpa using this
          obtain ⟨h1, h2⟩ := putD_rep key t.share hk (rs.monoZ (addF_le t.sep))
          have hH : ∀ b o, b ∉ fp k → H b = some o → upd H a (.dT (putK kvs key v)) b = some o := fun b o z w => by
            rw [upd_ne]
            · exact w
            · intro u; subst u; rw [ep] at z; exact z (List.mem_cons_self ..)
          exact .inr ⟨a, _, rfl, DPut.t ha (s.sub _ _ hb) (by rw [hlen]; exact LIM_lineS (Nat.le_of_lt hl)), q _ _ _ (s2.mutate (p := []) (q := [a]) (H' := upd H a (.dT (putK kvs key v))) h hv (fun c z => nomatch z) hH (.dto upd_same h1 (h2.monoZ fun _ _ z => z)) (by simp) fun c z => .inl (by rw [ep]; exact z)) ((Tr.share (O := own fp) t.sep).trans ((Tr.mutate (p := []) (q := [a]) (O := fun _ => True) hH fun c z => .inl (by rw [ep]; exact z)).weak (fun c z => z.elim id fun z => nomatch z) fun c z => .inl z))⟩
        · cases hd
  | _ => cases di <;> cases hd
/-- x[i] = e -/
def mSet (k : Nat) (oi : Op) (m : ME) : MS := fun e => (m e).toS fun d e1 => match e1[k]? with
  | some (some _) => match oi.run e1 with
    | .ok p e2 => match p.see e2 (fun di e3 => match e3[k]? with
      | some (some d0) => match setD d0 di d with
        | some d1 => .ok .non (e3.set k (some d1))
        | none => .no
      | _ => .no) with
      | .ok _ e4 => .nx e4
      | _ => .no
    | .ex c d e2 => .ex c d e2
    | .no => .no
  | _ => .no
theorem ss_sub {k : Nat} {x : Str} (C : Cn X N sc fr) (hx : varB N sc k x = true) (hi : SOp X g W b oa) (hv : SE X g W a m) (hs : swapsWithSole [.Subscript (.Name x p2) b p3] a pos.line X.env = pure false) (hw : swappedStores [.Subscript (.Name x p2) b p3] a X.env = pure none)
    (h1 : (assignEach [.Subscript (.Name x p2) b p3] X.env).map (·.2) = [assign (.Subscript (.Name x p2) b p3) X.env])
    (ha : ∀ v, assign (.Subscript (.Name x p2) b p3) X.env v = (do
      let ov ← holding [v] (eval (.Name x p2) X.env)
      let iv ← holding [v, ov] (eval b X.env)
      standAt p3
      holding [v, ov, iv] (setItem ov iv v)
      release [v, ov, iv] [])) : SS X g W L (.Assign [.Subscript (.Name x p2) b p3] a pos) (mSet k oa m) :=
  PS.imp (ps_asg hv (pg_sub (pv_ok C hx) hi (set_any C.hu1) ha) hs hw h1) fun D σ H ⟨F, fp, e, s, h⟩ => by
  refine RdE.iff.mpr ⟨F, fp, e, s, ?_⟩
  unfold mSet at h
  cases q : m e with
  | ok d e1 =>
    rw [q] at h
    rw [RE.toS_ok] at h
    intro v F1 H1 fp1 p s1 t1 tr1
    cases q1 : e1[k]? with
    | none => rw [q1] at h; exact h.elim
    | some o1 =>
      cases o1 with
      | none => rw [q1] at h; exact h.elim
      | some d0' =>
        rw [q1] at h
        simp only at h
        obtain ⟨u, hu, _⟩ := s1.rep k d0' q1
        refine ⟨u, hu, ?_⟩
        refine RdO.step oa s1 ?_
        cases q2 : oa.run e1 with
        | ok po e2 =>
          rw [q2] at h
          simp only at h
          intro y F2 H2 fp2 s2 tr2 v2
          have t2 := t1.keep tr2.nil fun c z => Or.inl z
          cases q3 : (po.see e2 fun di e3 => match e3[k]? with
            | some (some d0) => match setD d0 di d with
              | some d1 => RE.ok .non (e3.set k (some d1))
              | none => .no
            | _ => .no) with
          | no => rw [q3] at h; exact h.elim
          | ex c d e4 => rw [q3] at h; exact h.elim
          | ok dn e4 =>
            rw [q3] at h
            simp only at h
            obtain ⟨di, e3, F3, fp3, s3, b3, tr3, kk⟩ := PV.see_ok s2 v2 q3 (by intro z; cases z)
            have t3 := t2.keep tr3.nil fun c z => Or.inl z
            cases q4 : e3[k]? with
            | none => rw [q4] at kk; cases kk
            | some o4 =>
              cases o4 with
              | none => rw [q4] at kk; cases kk
              | some d0 =>
                rw [q4] at kk
                simp only at kk
                cases q5 : setD d0 di d with
                | none => rw [q5] at kk; cases kk
                | some d1 =>
                  rw [q5] at kk
                  injection kk with _ kk; subst kk
                  refine set_ok s3 q4 hu t3 b3 q5 fun F' H' fp' s' tr' => h σ F' H' fp' s' (fun _ _ => rfl) ?_
                  exact ((tr1.trans ((tr2.trans tr3).weak (P := fun c => own fp1 c ∨ c ∈ p) (P1 := fun c => own fp3 c ∨ c ∈ p) (fun _ z => .inl z) fun c z => z.imp id .inr)).trans tr')
        | ex c d2 e2 =>
          rw [q2] at h
          intro dx v2 F2 H2 fp2 p2 s2 t2 tr2 hx2
          exact h dx v2 σ F2 H2 fp2 p2 s2 (fun _ _ => rfl) t2 ((tr1.trans (tr2.weak (P := fun c => own fp1 c ∨ c ∈ p) (P1 := fun c => (own fp2 c ∨ c ∈ p2) ∨ c ∈ p) (fun _ z => .inl z) fun c z => z.imp id .inr)).drop fun c z => .inl z) hx2
        | no => rw [q2] at h; exact h
  | ex c d e1 => rw [q] at h; exact h.x
  | no => rw [q] at h; exact h
/-- x.append(e) -/
def mApp (k : Nat) (m : ME) : ME := fun e => match e[k]? with
  | some (some (.lst true _)) => (m e).bind fun d e1 => match e1[k]? with
    | some (some (.lst true xs)) => if xs.length < LIM then .ok .non (e1.set k (some (.lst true (xs ++ [d])))) else .no
    | _ => .no
  | _ => .no
theorem fewOk {cpos : Pos} {env : Env} (hs : starEach [a] env = (false, eval a env) :: starEach [] env) : ((backTo cpos (starEach [a] env)).all (fun x => !x.1) && (backToKw cpos (keywordEach [] env)).all (fun x => x.1.isSome)
      && decide (([a] : List Expr).length + ([] : List Keyword).length + (if ([] : List Keyword).isEmpty then 0 else 1) < 30)) = true := by
  rw [hs]; rfl
theorem se_app {k : Nat} {x : Str} (C : Cn X N sc fr) (hx : varB N sc k x = true) (hm : SE X g W a m) (hs : starEach [a] X.env = (false, eval a X.env) :: starEach [] X.env) (hl : (p3.endLine == pos.line) = true) :
    SE X g W (.Call (.Attribute (.Name x p2) "append" p3) [a] [] pos) (mApp k m) := PE.imp (pe_bm PySem.F.plainAttrs_list PySem.F.slot_list_append PySem.F.type_list_append mt_append (pv_ok C hx) (pa_cons hm pa_nil hs) rfl (fewOk hs) hl hs) fun σ H Q h => by
  obtain ⟨F, fp, e, s, h⟩ := RdE.iff.mp h
  unfold mApp at h
  cases q : e[k]? with
  | none => rw [q] at h; exact h.elim
  | some o =>
    cases o with
    | none => rw [q] at h; exact h.elim
    | some d0 =>
      cases d0 with
      | lst o xs0 =>
        cases o with
        | false => rw [q] at h; exact h.elim
        | true =>
          rw [q] at h
          simp only at h
          obtain ⟨v, hv, r⟩ := s.rep k _ q
          obtain ⟨a0, vs0, fs0, rfl, ep0, ha0, rs0⟩ := r.lo_inv
          refine ⟨.ref a0, hv, .inl ⟨rfl, vs0, SqL.of ha0⟩, ?_⟩
          refine RdE.iff.mpr ⟨F, fp, e, s, ?_⟩
          cases q1 : m e with
          | ok d e1 =>
            rw [q1] at h
            simp only [RE.bind_ok] at h
            intro u F1 H1 fp1 p s1 t1 tr1
            cases q2 : e1[k]? with
            | none => rw [q2] at h; exact h.elim
            | some o1 =>
              cases o1 with
              | none => rw [q2] at h; exact h.elim
              | some d1 =>
                cases d1 with
                | lst o xs =>
                  cases o with
                  | false => rw [q2] at h; exact h.elim
                  | true =>
                    rw [q2] at h
                    simp only at h
                    split at h
                    · rename_i hl
                      obtain ⟨v1, hv1, r1⟩ := s1.rep k _ q2
                      rw [hv] at hv1
                      cases hv1
                      obtain ⟨a1, vs, fs, ea, ep, ha, rs⟩ := r1.lo_inv
                      cases ea
                      have nd := s1.nd k
                      rw [ep] at nd
                      obtain ⟨n1, n2⟩ := List.nodup_cons.mp nd
                      have own_fs : ∀ c, c ∈ fs → own fp1 c := fun c z => ⟨k, by rw [ep]; exact List.mem_cons_of_mem _ z⟩
                      have own_a : own fp1 a0 := ⟨k, by rw [ep]; exact List.mem_cons_self ..⟩
                      have hH : ∀ b o, b ∉ fp1 k → H1 b = some o → upd H1 a0 (.lst (vs ++ [u])) b = some o := fun b o z w => by
                        rw [upd_ne]
                        · exact w
                        · intro z2; subst z2; rw [ep] at z; exact z (List.mem_cons_self ..)
                      have na : ∀ c, c ∈ fs ++ p → c ≠ a0 := fun c z w => by
                        subst w
                        rcases List.mem_append.mp z with z | z
                        · exact n1 z
                        · exact t1.dj c z own_a
                      have sub : ∀ c, c ∈ (a0 :: (fs ++ p)) → c ∈ fp1 k ∨ c ∈ p := fun c z => by
                        rcases List.mem_cons.mp z with z | z
                        · rw [z, ep]; exact .inl (List.mem_cons_self ..)
                        · exact (List.mem_append.mp z).imp (fun z => by rw [ep]; exact List.mem_cons_of_mem _ z) id
                      refine ⟨a0, vs, u, rfl, rfl, ha, by rw [rs.length]; exact LIM_lineS (Nat.le_of_lt hl), ?_⟩
                      refine h .non F1 _ _ [] (s1.mutate q2 hv (fun c z => ⟨t1.sep c z, t1.dj c z⟩) hH (.lo upd_same ((rs.append (ROs.one t1.r)).mono (fun _ _ z => z) fun c z o w => ?_)) (List.nodup_cons.mpr ⟨fun z => na a0 z rfl, List.nodup_append.mpr ⟨n2, t1.nd, fun x hx y hy z => t1.dj y hy (own_fs y (z ▸ hx))⟩⟩) sub) (TO.z .non) (tr1.trans (Tr.mutate (O := fun _ => True) hH sub)).nil
                      rw [upd_ne (na c z)]
                      exact w
                    · exact h.elim
                | _ => rw [q2] at h; exact h.elim
          | ex c d e1 => rw [q1] at h; exact h
          | no => rw [q1] at h; exact h.elim
      | _ => rw [q] at h; exact h.elim
/-- x.pop() -/
def mPop (k : Nat) : ME := fun e => match e[k]? with
  | some (some (.lst true xs)) => match xs[xs.length - 1]? with
    | some d => if fz d then .ok d (e.set k (some (.lst true xs.dropLast))) else .no
    | none => .no
  | _ => .no
/-! ### x op= e, ints -/
def augD (f : Int → Int → Int) : EV.D → EV.D → Option EV.D
  | .int i, .int j => some (.int (f i j))
  | _, _ => none
def mAug (k : Nat) (f : Int → Int → Int) (m : ME) : MS := fun e => match e[k]? with
  | some (some (.int i)) => (m e).toS fun d e1 => match d with
    | .int j => .nx (e1.set k (some (.int (f i j))))
    | _ => .no
  | _ => .no
theorem ss_aug {k : Nat} {x : Str} {op : Operator} {f : Int → Int → Int} (hN : X.N.Nodup) (hi : X.N[k]? = some x) (hx : Loc X.env.scope x) (h : SE X g W a m) (ho : PIp X op (ipI f)) (hL : k ∉ L) (hf : X.fn x = true ∨ X.env.scope.names.lookup x = some .local) :
    SS X g W L (.AugAssign (.Name x p2) op a pos) (mAug k f m) := PS.imp (ps_aug hN hi hx h ho hf) fun D σ H ⟨F, fp, e, s, h⟩ => by
  unfold mAug at h
  cases q : e[k]? with
  | none => rw [q] at h; exact h.elim
  | some o =>
    cases o with
    | none => rw [q] at h; exact h.elim
    | some d0 =>
      cases d0 with
      | int i =>
        rw [q] at h
        simp only at h
        obtain ⟨v, hv, r⟩ := s.rep k _ q
        cases r.int_inv
        refine ⟨.int i, hv, RdE.iff.mpr ⟨F, fp, e, s, ?_⟩⟩
        cases q1 : m e with
        | ok d e1 =>
          rw [q1] at h
          rw [RE.toS_ok] at h
          intro u F1 H1 fp1 p s1 t1 tr1
          cases d with
          | int j =>
            refine ⟨i, j, rfl, t1.r.int_inv, ?_⟩
            exact h _ F1 H1 _ (s1.store (TO.z (.int _))) (fun j hj => by
              rw [List.getElem?_set_ne]
              intro z; subst z; exact hL hj) (tr1.drop fun c z => (own_store c z).elim .inl fun z => nomatch z)
          | _ => exact h.elim
        | ex c d e1 => rw [q1] at h; exact h.x
        | no => rw [q1] at h; exact h
      | _ => rw [q] at h; exact h.elim
end
end EV

/-! EvJ: loops, comprehensions. -/
namespace EV
open PySem PySem.Spec PyProof.Rows L2

/-- enough turns for every while -/
@[irreducible] def FUEL : Nat := 1000000000
theorem FUEL_eq : FUEL = 1000000000 := by unfold FUEL; rfl
def whileN (t : ME) (m : MS) : Nat → MS
  | 0, _ => .no
  | n + 1, e => match t e with
    | .ok (.bl true) e1 => match m e1 with
      | .nx e2 => whileN t m n e2
      | .ct e2 => whileN t m n e2
      | .bk e2 => .nx e2
      | .rt d e2 => .rt d e2
      | .ex c d e2 => .ex c d e2
      | .no => .no
    | .ok (.bl false) e1 => .nx e1
    | .ok _ _ => .no
    | .ex c d e1 => .ex c d e1
    | .no => .no
def mWhile (t : ME) (m : MS) : MS := whileN t m FUEL
/-- a walk over known items -/
def forL (tg : CT) (m : MS) : List D → MS
  | [], e => .nx e
  | d :: ds, e => match put tg d e with
    | some e1 => match m e1 with
      | .nx e2 => forL tg m ds e2
      | .ct e2 => forL tg m ds e2
      | .bk e2 => .nx e2
      | .rt d e2 => .rt d e2
      | .ex c d e2 => .ex c d e2
      | .no => .no
    | none => .no
section
variable {X : Cx} {N : List Str} {sc : Scope} {fr : List Str} {g : GF} {G : GI} {W : WX} {L : List Nat} {a b c : Expr} {es : List Expr} {st : Stmt} {sts : List Stmt} {pos p2 p3 p4 : Pos} {oa ob : Op} {m n t : ME} {ms ns : MS} {F H F1 H1 F' H' : Hp} {fp fp1 fp' : Nat → List Addr} {σ σ1 : L2.St} {e e' : DEnv} {D : Ends}
theorem ss_while (hp : PassesOwn (model X.prog X.w) X.A X.env X.xe) (hc : ST X g W c t) (hb : SSs X g W L sts ms) : SS X g W L (.While c sts [] pos) (mWhile t ms) := PS.imp (ps_while hp hc hb) fun D σ H ⟨F, fp, e, s, h⟩ => by
  refine ⟨fun n σ H => ∃ F fp e, SO (gOf X g) F H fp σ e ∧ SOut (gOf X g) W L D σ F H fp (whileN t ms n e), ⟨FUEL, F, fp, e, s, h⟩, ?_⟩
  rintro n σ H ⟨F, fp, e, s, h⟩
  cases n with
  | zero => exact h.elim
  | succ n =>
    refine ⟨F, fp, e, s, ?_⟩
    unfold whileN at h
    cases q : t e with
    | ok d e1 =>
      rw [q] at h
      cases d with
      | bl b =>
        intro F1 H1 fp1 s1 tr1
        cases b with
        | true =>
          rw [if_pos rfl]
          refine ⟨fun σ' H' => ∃ F fp e, SO (gOf X g) F H' fp σ' e ∧ SOut (gOf X g) W L D σ' F H' fp (whileN t ms n e), fun σ' H' z => ⟨n, Nat.lt_succ_self n, z⟩, F1, fp1, e1, s1, ?_⟩
          simp only at h
          cases q1 : ms e1 with
          | nx e2 => rw [q1] at h; exact fun σ' F' H' fp' s' l' tr => ⟨F', fp', e2, s', SOut.trans h (tr1.trans tr) l'⟩
          | ct e2 => rw [q1] at h; exact fun σ' F' H' fp' s' l' tr => ⟨F', fp', e2, s', SOut.trans h (tr1.trans tr) l'⟩
          | bk e2 => rw [q1] at h; exact fun σ' F' H' fp' s' l' tr => h σ' F' H' fp' s' l' (tr1.trans tr)
          | rt d e2 => rw [q1] at h; exact fun v σ' F' H' fp' p s' l' t' tr => h v σ' F' H' fp' p s' l' t' (tr1.trans tr)
          | ex c d e2 => rw [q1] at h; exact fun dx v σ' F' H' fp' p s' l' t' tr hx => h dx v σ' F' H' fp' p s' l' t' (tr1.trans tr) hx
          | no => rw [q1] at h; exact h.elim
        | false =>
          rw [if_neg Bool.false_ne_true]
          exact h σ F1 H1 fp1 s1 (fun _ _ => rfl) tr1
      | _ => exact h.elim
    | ex c d e1 => rw [q] at h; exact h.x
    | no => rw [q] at h; exact h
/-! ### what is walked -/
/-- the items of a walk, whatever is made meanwhile; P: what stays as it was -/
structure ItOk (G : GI) (J : It) (F0 : Hp) (P : List Addr) (H0 : Hp) (ds : List EV.D) : Prop where
  go : ∀ F H k d, (∀ a o, F0 a = some o → F a = some o) → (∀ a, a ∈ P → ∀ o, H0 a = some o → H a = some o) → Sb F H → ds[k]? = some d → J.go k H ∧ ∀ x H', J.yld k H x H' →
    ∃ F', (∀ a o, F a = some o → F' a = some o) ∧ (∀ a o, H a = some o → H' a = some o) ∧ Sb F' H' ∧ (∀ a o, F' a = some o → F a = some o ∨ H a = none) ∧ RO G F' H' [] x d
  stop : ∀ F H, (∀ a o, F0 a = some o → F a = some o) → (∀ a, a ∈ P → ∀ o, H0 a = some o → H a = some o) → Sb F H → J.stop ds.length H
/-- a slot that is locked meanwhile -/
abbrev Lk := Option (Nat × EV.D)
def unlk (l : Lk) (e : DEnv) : DEnv := match l with
  | none => e
  | some (j, d) => e.set j (some d)
def lkIn (l : Lk) (Ls : List Nat) : Bool := match l with
  | none => true
  | some (j, _) => decide (j ∈ Ls)
def RE.unlk (l : Lk) : RE → RE
  | .ok d e => .ok d (EV.unlk l e)
  | .ex c d e => .ex c d (EV.unlk l e)
  | .no => .no
def RS.unlk (l : Lk) : RS → RS
  | .nx e => .nx (EV.unlk l e)
  | .bk e => .bk (EV.unlk l e)
  | .ct e => .ct (EV.unlk l e)
  | .rt d e => .rt d (EV.unlk l e)
  | .ex c d e => .ex c d (EV.unlk l e)
  | .no => .no
def LkOk (G : GI) (σ : L2.St) (F H : Hp) (fp : Nat → List Addr) (P : List Addr) (l : Lk) : Prop := match l with
  | none => P = []
  | some (j, d) => ∃ v, σ[j]? = some (some v) ∧ TO G F H fp P v d
theorem LkOk.keep {P q : List Addr} {l : Lk} {O1 : Addr → Prop} (k : LkOk G σ F H fp P l) (tr : Tr F H (own fp) F1 H1 O1) (h : ∀ c, own fp1 c → O1 c) : LkOk G σ F1 H1 fp1 P l := by
  cases l with
  | none => exact k
  | some jd =>
    obtain ⟨v, h1, t⟩ := k
    exact ⟨v, h1, t.keep tr h⟩
theorem LkOk.apart {P q : List Addr} {l : Lk} {O1 : Addr → Prop} (k : LkOk G σ F H fp P l) (tr : Tr F H (own fp) F1 H1 O1) (h : ∀ c, c ∈ q → O1 c) : ∀ c, c ∈ P → c ∈ q → False := by
  cases l with
  | none =>
    have k : P = [] := k
    subst k
    exact fun c z => nomatch z
  | some jd =>
    obtain ⟨v, h1, t⟩ := k
    exact t.apart tr h
theorem set_self' {i : Nat} {v : V} {σ : L2.St} (h : σ[i]? = some (some v)) : σ.set i (some v) = σ := by
  refine List.ext_getElem? fun j => ?_
  by_cases hj : j = i
  · subst hj
    have hl : j < σ.length := (List.getElem?_eq_some_iff.mp h).1
    rw [List.getElem?_set_self hl, h]
  · rw [List.getElem?_set_ne (Ne.symm hj)]
theorem SO.unlk {P : List Addr} {l : Lk} (k : LkOk G σ F H fp P l) (s : SO G F H fp σ1 e) (hj : ∀ j d, l = some (j, d) → σ1[j]? = σ[j]?) : ∃ fp', SO G F H fp' σ1 (EV.unlk l e) ∧ ∀ a, own fp' a → own fp a ∨ a ∈ P := by
  cases l with
  | none => exact ⟨fp, s, fun _ z => .inl z⟩
  | some jd =>
    obtain ⟨j, d⟩ := jd
    obtain ⟨v, h1, t⟩ := k
    have s2 := s.store (i := j) t
    rw [set_self' ((hj j d rfl).trans h1)] at s2
    exact ⟨_, s2, fun a z => own_store a z⟩
theorem lkIn_ok {l : Lk} {Ls : List Nat} (h : lkIn l Ls = true) {j : Nat} {d : EV.D} (e : l = some (j, d)) : j ∈ Ls := by
  subst e; exact of_decide_eq_true h
theorem TrL {P : List Addr} {O' : Addr → Prop} (t1 : Tr F H (own fp) F1 H1 (fun a => own fp1 a ∨ a ∈ P)) (t2 : Tr F1 H1 (own fp1) F' H' O') : Tr F H (own fp) F' H' (fun a => O' a ∨ a ∈ P) :=
  t1.trans (t2.weak (fun _ z => .inl z) fun c z => z.elim .inl fun z => .inr (.inr z))
theorem SOut.unlk {P : List Addr} {l : Lk} {Ls : List Nat} {r : RS} (hl : lkIn l Ls = true) (t1 : Tr F H (own fp) F1 H1 (fun a => own fp1 a ∨ a ∈ P)) (k : LkOk G σ F1 H1 fp1 P l) (h : SOut G W L D σ F H fp (r.unlk l)) : SOut G W (Ls ++ L) D σ F1 H1 fp1 r := by
  have lL : ∀ {σ' : L2.St}, (∀ i, i ∈ Ls ++ L → σ'[i]? = σ[i]?) → ∀ i, i ∈ L → σ'[i]? = σ[i]? := fun l' i z => l' i (List.mem_append_right _ z)
  have lj : ∀ {σ' : L2.St}, (∀ i, i ∈ Ls ++ L → σ'[i]? = σ[i]?) → ∀ j d, l = some (j, d) → σ'[j]? = σ[j]? := fun l' j d z => l' j (List.mem_append_left _ (lkIn_ok hl z))
  cases r with
  | nx e =>
    exact fun σ' F' H' fp' s' l' tr => by
      obtain ⟨fp2, s2, o2⟩ := SO.unlk (k.keep (q := []) tr fun _ z => z) s' (lj l')
      exact h σ' F' H' fp2 s2 (lL l') ((TrL t1 tr).drop o2)
  | bk e =>
    exact fun σ' F' H' fp' s' l' tr => by
      obtain ⟨fp2, s2, o2⟩ := SO.unlk (k.keep (q := []) tr fun _ z => z) s' (lj l')
      exact h σ' F' H' fp2 s2 (lL l') ((TrL t1 tr).drop o2)
  | ct e =>
    exact fun σ' F' H' fp' s' l' tr => by
      obtain ⟨fp2, s2, o2⟩ := SO.unlk (k.keep (q := []) tr fun _ z => z) s' (lj l')
      exact h σ' F' H' fp2 s2 (lL l') ((TrL t1 tr).drop o2)
  | rt d e =>
    exact fun v σ' F' H' fp' p s' l' t' tr => by
      obtain ⟨fp2, s2, o2⟩ := SO.unlk (k.keep (q := []) tr fun _ z => .inl z) s' (lj l')
      refine h v σ' F' H' fp2 p s2 (lL l') ⟨t'.r, t'.nd, t'.sep, fun a z w => ?_⟩ ((TrL t1 tr).drop fun c z => ?_)
      · exact (o2 a w).elim (t'.dj a z) fun w => k.apart tr (q := p) (fun c z => .inr z) a w z
      · exact z.elim (fun z => (o2 c z).imp .inl id) fun z => .inl (.inr z)
  | ex c d e =>
    exact fun dx v σ' F' H' fp' p s' l' t' tr hx => by
      obtain ⟨fp2, s2, o2⟩ := SO.unlk (k.keep (q := []) tr fun _ z => .inl z) s' (lj l')
      refine h dx v σ' F' H' fp2 p s2 (lL l') ⟨t'.r, t'.nd, t'.sep, fun a z w => ?_⟩ ((TrL t1 tr).drop fun c z => ?_) hx
      · exact (o2 a w).elim (t'.dj a z) fun w => k.apart tr (q := p) (fun c z => .inr z) a w z
      · exact z.elim (fun z => (o2 c z).imp .inl id) fun z => .inl (.inr z)
  | no => exact h
theorem EOut.unlk {P : List Addr} {l : Lk} {Q : VK} {r : RE} (t1 : Tr F H (own fp) F1 H1 (fun a => own fp1 a ∨ a ∈ P)) (k : LkOk G σ F1 H1 fp1 P l) (h : EOut G W σ F H fp Q (r.unlk l)) : EOut G W σ F1 H1 fp1 Q r := by
  cases r with
  | ok d e =>
    exact fun v F' H' fp' p s' t' tr => by
      obtain ⟨fp2, s2, o2⟩ := SO.unlk (k.keep (q := []) tr fun _ z => .inl z) s' (fun _ _ _ => rfl)
      refine h v F' H' fp2 p s2 ⟨t'.r, t'.nd, t'.sep, fun a z w => ?_⟩ ((TrL t1 tr).drop fun c z => ?_)
      · exact (o2 a w).elim (t'.dj a z) fun w => k.apart tr (q := p) (fun c z => .inr z) a w z
      · exact z.elim (fun z => (o2 c z).imp .inl id) fun z => .inl (.inr z)
  | ex c d e =>
    exact fun dx v F' H' fp' p s' t' tr hx => by
      obtain ⟨fp2, s2, o2⟩ := SO.unlk (k.keep (q := []) tr fun _ z => .inl z) s' (fun _ _ _ => rfl)
      refine h dx v F' H' fp2 p s2 ⟨t'.r, t'.nd, t'.sep, fun a z w => ?_⟩ ((TrL t1 tr).drop fun c z => ?_) hx
      · exact (o2 a w).elim (t'.dj a z) fun w => k.apart tr (q := p) (fun c z => .inr z) a w z
      · exact z.elim (fun z => (o2 c z).imp .inl id) fun z => .inl (.inr z)
  | no => exact h
inductive RI where
  | ok (ds : List EV.D) (l : Lk) (e : DEnv) | ex (c : Nat) (d : EV.D) (e : DEnv) | no
abbrev MI := DEnv → RI
def IOut (G : GI) (W : WX) (σ : L2.St) (F H : Hp) (fp : Nat → List Addr) (R : It → Hp → Prop) : RI → Prop
  | .ok ds l e' => ∀ J F' H' fp' P, SO G F' H' fp' σ e' → LkOk G σ F' H' fp' P l → Tr F H (own fp) F' H' (fun a => own fp' a ∨ a ∈ P) → ItOk G J F' P H' ds → R J H'
  | .ex c d e' => XOut G W σ F H fp c d e'
  | .no => False
def RdI (G : GI) (W : WX) (m : MI) : TI := fun σ H R => ∃ F fp e, SO G F H fp σ e ∧ IOut G W σ F H fp R (m e)
abbrev SI (X : Cx) (g : GF) (W : WX) (tg it : Expr) (m : MI) : Prop := PI X tg it (RdI (gOf X g) W m)
theorem PI.imp {tg it : Expr} {t u : TI} (h : PI X tg it t) (i : ∀ σ H Q, u σ H Q → t σ H Q) : PI X tg it u := ⟨fun pins s σ H Q I q => h.run pins s σ H Q I (i σ H Q q)⟩
def itemsD : EV.D → Option (List EV.D)
  | .tup ds => some ds
  | .lst _ ds => some ds
  | .scr ns => some (ns.map .int)
  | _ => none
/-- a list, a tuple, all of it shared -/
def mIt (m : ME) : MI := fun e => match m e with
  | .ok d e1 => match itemsD (frz d) with
    | some ds => .ok ds none e1
    | none => .no
  | .ex c d e1 => .ex c d e1
  | .no => .no
/-- what a name holds, the name not to be used meanwhile -/
def mItV (j : Nat) : MI := fun e => match e[j]? with
  | some (some (.lst true ds)) => if fzs ds = true then .ok ds (some (j, .lst true ds)) (e.set j none) else .no
  | some (some d) => match itemsD (frz d) with
    | some ds => if fz d = true then .ok ds none e else .no
    | none => .no
  | _ => .no
theorem itok_list {K : PySem.W.Frag} (hK : G.K = K) {A : Addr} {P : List Addr} {H0 : Hp} {vs : List V} {ds : List EV.D} (h : ∀ F' H', (∀ a o, F a = some o → F' a = some o) → (∀ a, a ∈ P → ∀ o, H0 a = some o → H' a = some o) → Sb F' H' → SqL K H' A vs) (r : ROs G F H [] vs ds) : ItOk G (Itl K A) F P H0 ds where
  go := fun F' H' k d h1 hP h2 h3 => by
    obtain ⟨u, hu, ru⟩ := r.get h3
    refine ⟨⟨vs, u, h F' H' h1 hP h2, hu⟩, fun x H2 y => ?_⟩
    obtain ⟨rfl, y⟩ := y
    have e := y vs (h F' H2 h1 hP h2)
    rw [hu] at e
    cases e
    exact ⟨F', fun _ _ z => z, fun _ _ z => z, h2, fun _ _ z => .inl z, ru.monoZ h1⟩
  stop := fun F' H' h1 hP h2 => ⟨vs, h F' H' h1 hP h2, by rw [r.length]; exact Nat.le_refl _⟩
theorem itok_tup {K : PySem.W.Frag} {A : Addr} {vs : List V} {P : List Addr} {H0 : Hp} {ds : List EV.D} (h : F A = some (.tup vs)) (r : ROs G F H [] vs ds) : ItOk G (Itt K A) F P H0 ds where
  go := fun F' H' k d h1 hP h2 h3 => by
    obtain ⟨u, hu, ru⟩ := r.get h3
    have q : SqT K H' A vs := SqT.of (h2 _ _ (h1 _ _ h))
    refine ⟨⟨vs, u, q, hu⟩, fun x H2 y => ?_⟩
    obtain ⟨rfl, y⟩ := y
    have e := y vs q
    rw [hu] at e
    cases e
    exact ⟨F', fun _ _ z => z, fun _ _ z => z, h2, fun _ _ z => .inl z, ru.monoZ h1⟩
  stop := fun F' H' h1 hP h2 => ⟨vs, SqT.of (h2 _ _ (h1 _ _ h)), by rw [r.length]; exact Nat.le_refl _⟩
/-- a list or a tuple walked -/
theorem pi_seq {tg l : Expr} {tl : TE} (hl : PE X l tl) : PI X tg l (fun σ H R => tl σ H fun x H1 => ∃ A, x = .ref A ∧ (((∃ xs, SqL X.K H1 A xs) ∧ R (Itl X.K A) H1) ∨ ((∃ xs, SqT X.K H1 A xs) ∧ R (Itt X.K A) H1))) := by
  refine ⟨fun pins s σ H R I h => ?_⟩
  refine thn (hl.run pins s σ H _ I h) fun v s1 ⟨x, H1, I1, r1, q1⟩ => ?_
  obtain ⟨A, e, q1⟩ := q1
  subst e
  cases r1
  rcases q1 with ⟨⟨xs, hq⟩, q⟩ | ⟨⟨xs, hq⟩, q⟩
  · obtain ⟨its, rv, p, hz⟩ := I1.list hq
    refine wpAny_pyIter_list p.isList ?_
    refine ⟨s1.heap.objs.size, [s1.heap.objs.size], _, _, H1, rfl, I1.kept (t' := s1.toks) fun b o e => Heap.get?_push_of_some _ e, turn_list A _, ⟨_, Heap.get?_push_size _ rfl, rfl, rfl⟩, fun b hb => ?_, q⟩
    have e : b = s1.heap.objs.size := by simpa using hb
    subst e
    exact I1.fpOk (Nat.le_refl _) (I1.hok.fresh (Nat.le_refl _))
  · obtain ⟨its, rv, p, hz⟩ := I1.tuple hq
    refine wpAny_pyIter_tuple (show s1.heap.IsTuple A its.toArray from p) ?_
    refine ⟨s1.heap.objs.size, [s1.heap.objs.size], _, _, H1, rfl, I1.kept (t' := s1.toks) fun b o e => Heap.get?_push_of_some _ e, turn_tuple A _, ⟨_, Heap.get?_push_size _ rfl, rfl, rfl⟩, fun b hb => ?_, q⟩
    have e : b = s1.heap.objs.size := by simpa using hb
    subst e
    exact I1.fpOk (Nat.le_refl _) (I1.hok.fresh (Nat.le_refl _))
theorem si_seq {tg l : Expr} (hl : SE X g W l m) : SI X g W tg l (mIt m) := PI.imp (pi_seq hl.z) fun σ H R ⟨F, fp, e, s, h⟩ => by
  refine ⟨F, fp, e, s, ?_⟩
  unfold mIt at h
  cases q : m e with
  | ok d e1 =>
    rw [q] at h
    intro v F1 H1 fp1 s1 r tr
    simp only at h
    generalize frz d = dz at h r
    cases dz with
    | tup ds =>
      obtain ⟨A, vs, rfl, ha, ra⟩ := r.tup_inv
      exact ⟨A, rfl, .inr ⟨⟨vs, SqT.of (s1.sub _ _ ha)⟩, h _ F1 H1 fp1 [] s1 rfl tr.nil (itok_tup ha ra)⟩⟩
    | lst o ds =>
      obtain ⟨_, A, vs, rfl, ha, ra⟩ := r.lst_inv
      exact ⟨A, rfl, .inl ⟨⟨vs, SqL.of (s1.sub _ _ ha)⟩, h _ F1 H1 fp1 [] s1 rfl tr.nil (itok_list rfl (fun F' H' h1 _ h2 => SqL.of (h2 _ _ (h1 _ _ ha))) ra)⟩⟩
    | scr ns =>
      obtain ⟨A, rfl, ha⟩ := r.scr_inv
      exact ⟨A, rfl, .inl ⟨⟨_, SqL.le ha s1.sub⟩, h _ F1 H1 fp1 [] s1 rfl tr.nil (itok_list (H := H1) rfl (fun F' H' h1 _ h2 => SqL.le ha fun c o z => h2 c o (h1 c o z)) (ints_RO ns))⟩⟩
    | _ => exact h.elim
  | ex c d e1 => rw [q] at h; exact h
  | no => rw [q] at h; exact h
/-- range(n), range(a, b) -/
def rangeD (lo hi : Int) : List EV.D := (List.range (hi - lo).toNat).map fun k => .int (lo + (k : Nat))
theorem itok_range (lo hi : Int) {P : List Addr} {H0 : Hp} : ItOk G (Itr lo (hi - lo).toNat) F P H0 (rangeD lo hi) where
  go := fun F' H' k d h1 hP h2 h3 => by
    unfold rangeD at h3
    rw [List.getElem?_map] at h3
    by_cases hk : k < (hi - lo).toNat
    · rw [List.getElem?_range hk] at h3
      injection h3 with h3; subst h3
      refine ⟨hk, fun x H2 y => ?_⟩
      obtain ⟨rfl, rfl⟩ := y
      exact ⟨F', fun _ _ z => z, fun _ _ z => z, h2, fun _ _ z => .inl z, .int _⟩
    · rw [List.getElem?_eq_none (by simpa using hk)] at h3
      cases h3
  stop := fun F' H' h1 hP h2 => by
    unfold rangeD
    rw [List.length_map, List.length_range]
    exact Nat.le_refl _
def rngOk (i : Int) : Bool := Nat.ble i.natAbs 4611686018427387903
theorem rngOk_iff {i : Int} (h : rngOk i = true) : -(2 ^ 62) ≤ i ∧ i < 2 ^ 62 := by
  have h2 := Nat.le_of_ble_eq_true h
  omega
def mRg1 (m : ME) : MI := fun e => match m e with
  | .ok (.int j) e1 => if rngOk j = true then .ok (rangeD 0 j) none e1 else .no
  | .ok _ _ => .no
  | .ex c d e1 => .ex c d e1
  | .no => .no
def mRg2 (m n : ME) : MI := fun e => match m e with
  | .ok (.int i) e1 => match n e1 with
    | .ok (.int j) e2 => if (rngOk i && rngOk j) = true then .ok (rangeD i j) none e2 else .no
    | .ok _ _ => .no
    | .ex c d e2 => .ex c d e2
    | .no => .no
  | .ok _ _ => .no
  | .ex c d e1 => .ex c d e1
  | .no => .no
theorem si_rg1 {tg : Expr} (C : Cn X N sc fr) (h1 : ("range" : Str) ∈ fr) (h2 : glB sc "range" = true) (ha : SE X g W a m) (hs : starEach [a] X.env = [(false, eval a X.env)]) : SI X g W tg (.Call (.Name "range" p2) [a] [] pos) (mRg1 m) :=
  PI.imp (pi_range1 (gl_ok C h2) (C.hfr _ h1) (pa_cons ha pa_nil hs) hs) fun σ H R ⟨F, fp, e, s, h⟩ => by
  refine RdE.iff.mpr ⟨F, fp, e, s, ?_⟩
  unfold mRg1 at h
  cases q : m e with
  | ok d e1 =>
    rw [q] at h
    intro v F1 H1 fp1 p s1 t1 tr
    cases d with
    | int j =>
      simp only at h
      split at h
      · rename_i hj
        obtain ⟨b1, b2⟩ := rngOk_iff hj
        refine ⟨j, by rw [t1.r.int_inv], b1, b2, ?_⟩
        have z := itok_range (G := gOf X g) (F := F1) (P := []) (H0 := H1) 0 j
        rw [Int.sub_zero] at z
        exact h _ F1 H1 fp1 [] s1 rfl (tr.drop fun c z => .inl z).nil z
      · exact h.elim
    | _ => exact h.elim
  | ex c d e1 => rw [q] at h; exact h
  | no => rw [q] at h; exact h
theorem si_rg2 {tg : Expr} (C : Cn X N sc fr) (h1 : ("range" : Str) ∈ fr) (h2 : glB sc "range" = true) (ha : SE X g W a m) (hb : SE X g W b n) (hs : starEach [a, b] X.env = [(false, eval a X.env), (false, eval b X.env)]) (hs2 : starEach [b] X.env = [(false, eval b X.env)]) :
    SI X g W tg (.Call (.Name "range" p2) [a, b] [] pos) (mRg2 m n) :=
  PI.imp (pi_range2 (gl_ok C h2) (C.hfr _ h1) (pa_cons ha (pa_cons hb pa_nil hs2) (by rw [hs, hs2])) hs hs2) fun σ H R ⟨F, fp, e, s, h⟩ => by
  refine RdE.iff.mpr ⟨F, fp, e, s, ?_⟩
  unfold mRg2 at h
  cases q : m e with
  | ok d e1 =>
    rw [q] at h
    intro v F1 H1 fp1 p s1 t1 tr1
    cases d with
    | int i =>
      simp only at h
      refine RdE.iff.mpr ⟨F1, fp1, e1, s1, ?_⟩
      cases q1 : n e1 with
      | ok d2 e2 =>
        rw [q1] at h
        intro v2 F2 H2 fp2 p2 s2 t2 tr2
        cases d2 with
        | int j =>
          simp only at h
          split at h
          · rename_i hj
            rw [Bool.and_eq_true] at hj
            obtain ⟨b1, b2⟩ := rngOk_iff hj.1
            obtain ⟨b3, b4⟩ := rngOk_iff hj.2
            refine ⟨i, j, by rw [t1.r.int_inv, t2.r.int_inv], ⟨b1, b2, b3, b4⟩, ?_⟩
            exact h _ F2 H2 fp2 [] s2 rfl ((tr1.drop fun c z => .inl z).trans (tr2.drop fun c z => .inl z)).nil (itok_range i j)
          · exact h.elim
        | _ => exact h.elim
      | ex c d2 e2 => rw [q1] at h; exact XOut.trans h (tr1.drop fun c z => .inl z)
      | no => rw [q1] at h; exact h.elim
    | _ => exact h.elim
  | ex c d e1 => rw [q] at h; exact h
  | no => rw [q] at h; exact h
/-- for target in iter -/
def mFor (Ls : List Nat) (tg : CT) (mi : MI) (m : MS) : MS := fun e => match mi e with
  | .ok ds l e1 => if lkIn l Ls = true then (forL tg m ds e1).unlk l else .no
  | .ex c d e1 => .ex c d e1
  | .no => .no
theorem SO.growT (s : SO G F H fp σ e) (h1 : ∀ a o, F a = some o → F' a = some o) (h2 : ∀ a o, H a = some o → H' a = some o) (h4 : ∀ a o, F' a = some o → F a = some o ∨ H a = none) : Tr F H (own fp) F' H' (own fp) :=
  ⟨h1, fun b o _ z => h2 b o z, fun b z => .inl z, fun b o z => (h4 b o z).imp id .inr⟩
theorem itok_own {K : PySem.W.Frag} (hK : G.K = K) {A : Addr} {P : List Addr} {vs : List V} {ds : List EV.D} (hA : A ∈ P) (h : H A = some (.lst vs)) (r : ROs G F H [] vs ds) : ItOk G (Itl K A) F P H ds := itok_list hK (fun F' H' h1 hP h2 => SqL.of (hP A hA _ h)) r
theorem si_v (C : Cn X N sc fr) {tg : Expr} {j : Nat} {x : Str} (hx : varB N sc j x = true) : SI X g W tg (.Name x pos) (mItV j) := PI.imp (pi_seq (pv_ok C hx)) fun σ H R ⟨F, fp, e, s, h⟩ => by
  unfold mItV at h
  cases q : e[j]? with
  | none => rw [q] at h; exact h.elim
  | some o =>
    cases o with
    | none => rw [q] at h; exact h.elim
    | some d =>
      rw [q] at h
      obtain ⟨v, hv, r⟩ := s.rep j d q
      refine ⟨v, hv, ?_⟩
      have zz : ∀ d', d' = d → fz d' = true → (∀ ds, itemsD (frz d') = some ds → IOut (gOf X g) W σ F H fp R (.ok ds none e) → ∃ A, v = .ref A ∧ (((∃ xs, SqL X.K H A xs) ∧ R (Itl X.K A) H) ∨ ((∃ xs, SqT X.K H A xs) ∧ R (Itt X.K A) H))) := by
        intro d' e1 hf ds hi h
        subst e1
        rw [r.nil_of_fz hf] at r
        have r := r.frz (F' := F) (H' := H) (fun _ _ z => z) fun a z => nomatch z
        generalize frz d' = dz at hi r
        cases dz with
        | tup ds' =>
          injection hi with hi; subst hi
          obtain ⟨A, vs, rfl, ha, ra⟩ := r.tup_inv
          exact ⟨A, rfl, .inr ⟨⟨vs, SqT.of (s.sub _ _ ha)⟩, h _ F H fp [] s rfl Tr.refl.nil (itok_tup ha ra)⟩⟩
        | lst o ds' =>
          injection hi with hi; subst hi
          obtain ⟨_, A, vs, rfl, ha, ra⟩ := r.lst_inv
          exact ⟨A, rfl, .inl ⟨⟨vs, SqL.of (s.sub _ _ ha)⟩, h _ F H fp [] s rfl Tr.refl.nil (itok_list rfl (fun F' H' h1 _ h2 => SqL.of (h2 _ _ (h1 _ _ ha))) ra)⟩⟩
        | scr ns =>
          injection hi with hi; subst hi
          obtain ⟨A, rfl, ha⟩ := r.scr_inv
          exact ⟨A, rfl, .inl ⟨⟨_, SqL.le ha s.sub⟩, h _ F H fp [] s rfl Tr.refl.nil (itok_list (H := H) rfl (fun F' H' h1 _ h2 => SqL.le ha fun c o z => h2 c o (h1 c o z)) (ints_RO ns))⟩⟩
        | _ => cases hi
      have gen : (∀ ds, d ≠ .lst true ds) → (match itemsD (frz d) with
          | some ds => if fz d = true then RI.ok ds none e else .no
          | none => .no) = mItV j e → ∃ A, v = .ref A ∧ (((∃ xs, SqL X.K H A xs) ∧ R (Itl X.K A) H) ∨ ((∃ xs, SqT X.K H A xs) ∧ R (Itt X.K A) H)) := by
        intro _ he
        have h : IOut (gOf X g) W σ F H fp R (mItV j e) := by
          unfold mItV; rw [q]; exact h
        rw [← he] at h
        cases q2 : itemsD (frz d) with
        | none => rw [q2] at h; exact h.elim
        | some ds =>
          rw [q2] at h
          simp only at h
          by_cases hf : fz d = true
          · rw [if_pos hf] at h
            exact zz d rfl hf ds q2 h
          · rw [if_neg hf] at h; exact h.elim
      cases d with
      | lst o ds =>
        cases o with
        | true =>
          simp only at h
          by_cases hf : fzs ds = true
          · rw [if_pos hf] at h
            obtain ⟨A, vs, fs, rfl, ep, ha, rs⟩ := r.lo_inv
            obtain ⟨v2, hv2, t2⟩ := s.take q
            rw [hv] at hv2
            cases hv2
            have hfs : fs = [] := rs.nil_of_fz hf
            subst hfs
            exact ⟨A, rfl, .inl ⟨⟨vs, SqL.of ha⟩, h _ F H _ (fp j) s.forget ⟨_, hv, t2⟩ (Tr.refl.drop fun c z => own_take c z) (itok_own rfl (by rw [ep]; exact List.mem_cons_self ..) ha rs)⟩⟩
          · rw [if_neg hf] at h; exact h.elim
        | false => exact gen (fun ds' z => by cases z) (by unfold mItV; rw [q])
      | _ => exact gen (fun ds' z => by cases z) (by unfold mItV; rw [q])
theorem ss_for {Ls : List Nat} {tg it : Expr} {t : CT} {r : TG} {mi : MI} (hp : PassesOwn (model X.prog X.w) X.A X.env X.xe) (hc : X.calm = true) (hi : SI X g W tg it mi) (hg : PG X tg r) (hk : GOk (gOf X g) (Ls ++ L) t r) (hb : SSs X g W (Ls ++ L) sts ms)
    (hs : ∀ x, foldedSetIterable it X.env x = pure x) : SS X g W L (.For tg it sts [] pos) (mFor Ls t mi ms) := PS.imp (ps_for hp hc hi hg hb hs) fun D σ H ⟨F, fp, e, s, h⟩ => by
  refine ⟨F, fp, e, s, ?_⟩
  unfold mFor at h
  cases q : mi e with
  | ok ds l e1 =>
    rw [q] at h
    intro J F1 H1 fp1 P s1 lk tr1 ok
    simp only at h
    by_cases hl : lkIn l Ls = true
    rotate_left
    · rw [if_neg hl] at h; exact h.elim
    rw [if_pos hl] at h
    have h := SOut.unlk hl tr1 lk h
    have hP : ∀ a, a ∈ P → ¬ own fp1 a := fun a z => by
      cases l with
      | none =>
        have lk : P = [] := lk
        subst lk; cases z
      | some jd => obtain ⟨v, _, t⟩ := lk; exact t.dj a z
    refine ⟨fun i mm σ' H' => mm + i = ds.length ∧ ∃ F fp e, SO (gOf X g) F H' fp σ' e ∧ Tr F1 H1 (own fp1) F H' (own fp) ∧ SOut (gOf X g) W (Ls ++ L) D σ' F H' fp (forL t ms (ds.drop i) e), ⟨ds.length, rfl, F1, fp1, e1, s1, Tr.refl, h⟩, ?_⟩
    rintro i mm σ2 H2 ⟨hm, F2, fp2, e2, s2, T2, h2⟩
    have pP : ∀ a, a ∈ P → ∀ o, H1 a = some o → H2 a = some o := fun a z o w => T2.fr a o (hP a z) w
    cases qd : ds[i]? with
    | none =>
      have hi : ds.length ≤ i := List.getElem?_eq_none_iff.mp qd
      have he : i = ds.length := by omega
      rw [List.drop_of_length_le hi] at h2
      exact .inl ⟨by rw [he]; exact ok.stop F2 H2 T2.ff pP s2.sub, h2 σ2 F2 H2 fp2 s2 (fun _ _ => rfl) Tr.refl⟩
    | some d =>
      obtain ⟨hi, hd⟩ := List.getElem?_eq_some_iff.mp qd
      obtain ⟨g1, g2⟩ := ok.go F2 H2 i d T2.ff pP s2.sub qd
      have ed : ds.drop i = d :: ds.drop (i + 1) := by rw [List.drop_eq_getElem_cons hi, hd]
      rw [ed] at h2
      unfold forL at h2
      refine .inr ⟨g1, fun σ' H' => ∃ F fp e, SO (gOf X g) F H' fp σ' e ∧ Tr F1 H1 (own fp1) F H' (own fp) ∧ SOut (gOf X g) W (Ls ++ L) D σ' F H' fp (forL t ms (ds.drop (i + 1)) e), fun σ' H' z => ⟨mm - 1, by omega, by omega, z⟩, fun x H3 y => ?_⟩
      obtain ⟨F3, k1, k2, k3, k4, rx⟩ := g2 x H3 y
      have s3 := s2.grow k1 k2 k3 k4
      have tr3 := s2.growT k1 k2 k4
      cases q1 : put t d e2 with
      | none => rw [q1] at h2; exact h2.elim
      | some e3 =>
        rw [q1] at h2
        simp only at h2
        refine hk s3 (TO.z rx) q1 fun σ4 fp4 s4 l4 o4 => ⟨F3, fp4, e3, s4, ?_⟩
        have tr4 : Tr F2 H2 (own fp2) F3 H3 (own fp4) := tr3.drop fun c z => (o4 c z).elim id fun z => nomatch z
        cases q2 : ms e3 with
        | nx e4 => rw [q2] at h2; exact fun σ' F' H' fp' s' l' tr => ⟨F', fp', e4, s', T2.trans (tr4.trans tr), SOut.trans h2 (tr4.trans tr) fun j z => (l' j z).trans (l4 j z)⟩
        | ct e4 => rw [q2] at h2; exact fun σ' F' H' fp' s' l' tr => ⟨F', fp', e4, s', T2.trans (tr4.trans tr), SOut.trans h2 (tr4.trans tr) fun j z => (l' j z).trans (l4 j z)⟩
        | bk e4 => rw [q2] at h2; exact fun σ' F' H' fp' s' l' tr => h2 σ' F' H' fp' s' (fun j z => (l' j z).trans (l4 j z)) (tr4.trans tr)
        | rt d e4 => rw [q2] at h2; exact fun v σ' F' H' fp' p s' l' t' tr => h2 v σ' F' H' fp' p s' (fun j z => (l' j z).trans (l4 j z)) t' (tr4.trans tr)
        | ex c d e4 => rw [q2] at h2; exact fun dx v σ' F' H' fp' p s' l' t' tr hx => h2 dx v σ' F' H' fp' p s' (fun j z => (l' j z).trans (l4 j z)) t' (tr4.trans tr) hx
        | no => rw [q2] at h2; exact h2.elim
  | ex c d e1 => rw [q] at h; exact h.x
  | no => rw [q] at h; exact h.elim
end
end EV

/-! EvK: list comprehensions. -/
namespace EV
open PySem PySem.Spec PyProof.Rows L2

def wipeE : List Nat → DEnv → DEnv
  | [], e => e
  | i :: is, e => (wipeE is e).set i none
/-- shared values of the names that a comprehension has for its own come back -/
def backE (e1 : DEnv) : List Nat → DEnv → DEnv
  | [], e => e
  | i :: is, e => match e1[i]? with
    | some (some d) => if fz d = true then (backE e1 is e).set i (some d) else backE e1 is e
    | _ => backE e1 is e
inductive RL where
  | ok (acc : List D) (e : DEnv) | no
/-- the turns of a comprehension -/
def lcL (own : List Nat) (tg : CT) (cond elt : ME) : List D → List D → DEnv → RL
  | [], acc, e => .ok acc e
  | d :: ds, acc, e => match put tg d e with
    | some e1 => match cond e1 with
      | .ok (.bl true) e2 => match elt e2 with
        | .ok y e3 => if acc.length < LIM then lcL own tg cond elt ds (acc ++ [y]) (wipeE own e3) else .no
        | _ => .no
      | .ok (.bl false) e2 => lcL own tg cond elt ds acc (wipeE own e2)
      | _ => .no
    | none => .no
def mLc (own : List Nat) (tg : CT) (mi : MI) (cond elt : ME) : ME := fun e => match mi e with
  | .ok ds l e1 => RE.unlk l (match lcL own tg cond elt ds [] (wipeE own e1) with
    | .ok acc e2 => .ok (.lst true acc) (backE e1 own e2)
    | .no => .no)
  | .ex c d e1 => .ex c d e1
  | .no => .no
def mTrue : ME := fun e => .ok (.bl true) e
abbrev W0 : WX := fun _ _ _ _ => False
section
variable {X : Cx} {N : List Str} {sc : Scope} {fr : List Str} {g : GF} {G : GI} {W : WX} {L : List Nat} {a b c : Expr} {es : List Expr} {pos p2 p3 p4 : Pos} {m n t : ME} {F H F1 H1 F' H' : Hp} {fp fp1 fp' : Nat → List Addr} {σ σ1 : L2.St} {e e' : DEnv}
theorem SO.unslot {i : Nat} (s : SO G F H fp σ e) (h : ∀ d, e[i]? ≠ some (some d)) : SO G F H fp (σ.set i none) e where
  sub := s.sub
  rep := fun j d hj => by
    obtain ⟨v, hv, r⟩ := s.rep j d hj
    refine ⟨v, ?_, r⟩
    rw [List.getElem?_set_ne]
    · exact hv
    · intro z; subst z; exact h d hj
  nd := s.nd
  dj := s.dj
  sep := s.sep
  th := s.th
  len := by rw [List.length_set]; exact s.len
theorem set_none {i : Nat} {e : DEnv} : ∀ d, (e.set i none)[i]? ≠ some (some d) := fun d h => by
  by_cases hi : i < e.length
  · rw [List.getElem?_set_self hi] at h; cases h
  · rw [List.getElem?_eq_none (by simpa using hi)] at h; cases h
theorem SO.wipe (s : SO G F H fp σ e) : ∀ own : List Nat, SO G F H (fun j => if j ∈ own then [] else fp j) (wipe σ own) (wipeE own e)
  | [] => by
    have q : (fun j => if j ∈ ([] : List Nat) then [] else fp j) = fp := funext fun j => if_neg (by simp)
    rw [q]; exact s
  | i :: is => by
    have s1 := ((SO.wipe s is).forget (i := i)).unslot set_none
    have q : (fun j => if j = i then [] else (fun j => if j ∈ is then [] else fp j) j) = fun j => if j ∈ i :: is then [] else fp j := funext fun j => by
      by_cases h1 : j = i
      · simp [h1]
      · simp [h1]
    rw [q] at s1
    exact s1
theorem own_wipe {own' : List Nat} : ∀ a, own (fun j => if j ∈ own' then [] else fp j) a → own fp a := fun a ⟨j, h⟩ => by
  dsimp only at h
  split at h
  · cases h
  · exact ⟨j, h⟩
theorem SO.putZ {i : Nat} {v : V} {d : D} (s : SO G F H fp σ e) (hv : σ[i]? = some (some v)) (r : RO G F H [] v d) : SO G F H (fun j => if j = i then [] else fp j) σ (e.set i (some d)) where
  sub := s.sub
  rep := fun j x hx => by
    by_cases hj : j = i
    · subst hj
      by_cases hl : j < e.length
      · rw [List.getElem?_set_self hl] at hx
        cases hx
        exact ⟨v, hv, by rw [if_pos rfl]; exact r⟩
      · rw [List.getElem?_eq_none (by simpa using hl)] at hx; cases hx
    · rw [List.getElem?_set_ne (Ne.symm hj)] at hx
      obtain ⟨w, h1, r1⟩ := s.rep j x hx
      exact ⟨w, h1, by rw [if_neg hj]; exact r1⟩
  nd := fun j => by
    split
    · exact List.nodup_nil
    · exact s.nd j
  dj := fun j k a h1 h2 => by
    split at h1
    · cases h1
    · split at h2
      · cases h2
      · exact s.dj j k a h1 h2
  sep := fun j a z => by
    split at z
    · cases z
    · exact s.sep j a z
  th := fun j a z => by
    split at z
    · cases z
    · exact s.th j a z
  len := by rw [List.length_set]; exact s.len
theorem SO.back {F0 H0 : Hp} {fp0 : Nat → List Addr} {e1 : DEnv} (s1 : SO G F0 H0 fp0 σ e1) (hF : ∀ a o, F0 a = some o → F a = some o) (s : SO G F H fp σ e) : ∀ own' : List Nat, ∃ fp', SO G F H fp' σ (backE e1 own' e) ∧ ∀ a, own fp' a → own fp a
  | [] => ⟨fp, s, fun _ z => z⟩
  | i :: is => by
    obtain ⟨fp', s2, o2⟩ := SO.back s1 hF s is
    unfold backE
    cases q : e1[i]? with
    | none => exact ⟨fp', s2, o2⟩
    | some o =>
      cases o with
      | none => exact ⟨fp', s2, o2⟩
      | some d =>
        simp only
        split
        · rename_i hd
          obtain ⟨v, hv, r⟩ := s1.rep i d q
          rw [r.nil_of_fz hd] at r
          exact ⟨_, s2.putZ hv (r.monoZ hF), fun a ⟨j, z⟩ => o2 a (by
            dsimp only at z
            split at z
            · cases z
            · exact ⟨j, z⟩)⟩
        · exact ⟨fp', s2, o2⟩
/-- the state of the block is a state of the def -/
theorem SO.unwipe {own' : List Nat} (s : SO G F H fp (L2.wipe σ own') e) (hl : ∀ i, i ∈ own' → ∀ d, e[i]? ≠ some (some d)) : SO G F H fp σ e where
  sub := s.sub
  rep := fun j d hj => by
    obtain ⟨v, hv, r⟩ := s.rep j d hj
    have hn : j ∉ own' := fun z => hl j z d hj
    rw [wipe_out hn] at hv
    exact ⟨v, hv, r⟩
  nd := s.nd
  dj := s.dj
  sep := s.sep
  th := s.th
  len := by rw [← s.len, wipe_length]
theorem wipeE_no : ∀ (own' : List Nat) (e : DEnv) (i : Nat), i ∈ own' → ∀ d, (wipeE own' e)[i]? ≠ some (some d)
  | j :: is, e, i, h, d => by
    unfold wipeE
    by_cases hj : i = j
    · subst hj; exact set_none d
    · rw [List.getElem?_set_ne (Ne.symm hj)]
      exact wipeE_no is e i ((List.mem_cons.mp h).resolve_left hj) d
mutual
theorem put_len : ∀ (t : CT) (d : D) (e e' : DEnv), put t d e = some e' → e'.length = e.length
  | .v i, d, e, e', h => by
    injection h with h; subst h
    rw [List.length_set]
  | .t ts, d, e, e', h => by
    cases d with
    | tup ds => exact puts_len ts ds e e' h
    | _ => cases h
theorem puts_len : ∀ (ts : List CT) (ds : List D) (e e' : DEnv), puts ts ds e = some e' → e'.length = e.length
  | [], [], e, e', h => by injection h with h; rw [h]
  | [], _ :: _, e, e', h => by cases h
  | _ :: _, [], e, e', h => by cases h
  | t :: ts, d :: ds, e, e', h => by
    have h : ((put t d e).bind fun e1 => puts ts ds e1) = some e' := h
    cases q : put t d e with
    | none => rw [q] at h; cases h
    | some e1 =>
      rw [q] at h
      exact (puts_len ts ds e1 e' h).trans (put_len t d e e1 q)
end
theorem wipe_eq {own' : List Nat} {σ2 : L2.St} (hl : σ2.length = σ.length) (h : ∀ j, j < σ.length → j ∉ own' → σ2[j]? = (L2.wipe σ own')[j]?) : L2.wipe σ2 own' = L2.wipe σ own' := by
  refine List.ext_getElem? fun j => ?_
  by_cases hj : j ∈ own'
  · have none_at : ∀ (s : L2.St) (vs : List Nat), j ∈ vs → j < s.length → (L2.wipe s vs)[j]? = some none := by
      intro s vs
      induction vs with
      | nil => intro h; cases h
      | cons v vs ih =>
        intro hv hjl
        unfold L2.wipe
        by_cases e : j = v
        · subst e
          rw [List.getElem?_set_self (by rw [wipe_length]; exact hjl)]
        · rw [List.getElem?_set_ne (Ne.symm e)]
          exact ih ((List.mem_cons.mp hv).resolve_left e) hjl
    by_cases hjl : j < σ.length
    · rw [none_at σ2 own' hj (by rw [hl]; exact hjl), none_at σ own' hj hjl]
    · rw [List.getElem?_eq_none (by rw [wipe_length]; omega), List.getElem?_eq_none (by rw [wipe_length]; omega)]
  · rw [wipe_out hj]
    by_cases hjl : j < σ.length
    · exact h j hjl hj
    · rw [List.getElem?_eq_none (by omega), List.getElem?_eq_none (by rw [wipe_length]; omega)]
/-- what the rest of a comprehension asks -/
def COut (G : GI) (σ : L2.St) (F H : Hp) (fp : Nat → List Addr) (p : List Addr) (own' : List Nat) (D : Addr) (Q : VK) : RL → Prop
  | .ok acc e' => ∀ F' H' fp' p', SO G F' H' fp' σ e' → (∀ i, i ∈ own' → ∀ d, e'[i]? ≠ some (some d)) → TO G F' H' fp' p' (.ref D) (.lst true acc) → Tr F H (fun a => own fp a ∨ a ∈ p) F' H' (fun a => own fp' a ∨ a ∈ p') → Q (.ref D) H'
  | .no => False
theorem COut.trans {G : GI} {σ : L2.St} {F H F1 H1 : Hp} {fp fp1 : Nat → List Addr} {p p1 : List Addr} {own' : List Nat} {D : Addr} {Q : VK} {r : RL} (h : COut G σ F H fp p own' D Q r) (t : Tr F H (fun a => own fp a ∨ a ∈ p) F1 H1 (fun a => own fp1 a ∨ a ∈ p1)) : COut G σ F1 H1 fp1 p1 own' D Q r := by
  cases r with
  | ok acc e' => exact fun F' H' fp' p' s l t' tr => h F' H' fp' p' s l t' (t.trans tr)
  | no => exact h
theorem pts_true (h : PTs X [] tYes) : PTs X [] (RdT (gOf X g) W0 mTrue) := ⟨fun pins s σ H Q I ⟨F, fp, e, so, hw⟩ => h.run pins s σ H Q I (hw F H fp so Tr.refl)⟩
theorem PTs.of {ifs : List Expr} {t : TT} (h : PTs X ifs t) : PTs X ifs t := h
/-- y behind the list -/
theorem TO.snoc {Da : Addr} {acc : List D} {y : D} {v : V} {p q : List Addr} (t1 : TO G F H fp p (.ref Da) (.lst true acc)) (t2 : TO G F H fp q v y) (hpq : ∀ a, a ∈ p → a ∈ q → False) (s : SO G F H fp σ e) :
    ∃ vs, H Da = some (.lst vs) ∧ vs.length = acc.length ∧ ∃ p', SO G F (upd H Da (.lst (vs ++ [v]))) fp σ e ∧ TO G F (upd H Da (.lst (vs ++ [v]))) fp p' (.ref Da) (.lst true (acc ++ [y])) ∧ Tr F H (fun a => (own fp a ∨ a ∈ p) ∨ a ∈ q) F (upd H Da (.lst (vs ++ [v]))) (fun a => own fp a ∨ a ∈ p') := by
  obtain ⟨a0, vs, fs, ea, ep, ha, rs⟩ := t1.r.lo_inv
  cases ea
  subst ep
  obtain ⟨n1, n2⟩ := List.nodup_cons.mp t1.nd
  have na : ∀ c, c ∈ fs ++ q → c ≠ Da := fun c z w => by
    subst w
    rcases List.mem_append.mp z with z | z
    · exact n1 z
    · exact hpq c (List.mem_cons_self ..) z
  have noD : ¬ own fp Da := t1.dj Da (List.mem_cons_self ..)
  have FD : F Da = none := t1.sep Da (List.mem_cons_self ..)
  refine ⟨vs, ha, rs.length, Da :: (fs ++ q), ?_, ⟨.lo upd_same ((rs.append (ROs.one t2.r)).mono (fun _ _ z => z) fun c z o w => by rw [upd_ne (na c z)]; exact w), ?_, fun c z => ?_, fun c z => ?_⟩, ?_⟩
  · exact {
      sub := fun b o z => by
        rw [upd_ne]
        · exact s.sub b o z
        · intro w; subst w; rw [FD] at z; cases z
      rep := fun j d hj => by
        obtain ⟨w, hw, r⟩ := s.rep j d hj
        exact ⟨w, hw, r.mono (fun _ _ z => z) fun b z o u => by
          rw [upd_ne]
          · exact u
          · intro w; subst w; exact noD ⟨j, z⟩⟩
      nd := s.nd
      dj := s.dj
      sep := s.sep
      th := fun j b z => by
        obtain ⟨o, ho⟩ := s.th j b z
        refine ⟨o, ?_⟩
        rw [upd_ne]
        · exact ho
        · intro w; subst w; exact noD ⟨j, z⟩
      len := s.len }
  · exact List.nodup_cons.mpr ⟨fun z => na Da z rfl, List.nodup_append.mpr ⟨n2, t2.nd, fun x hx y hy z => hpq x (List.mem_cons_of_mem _ hx) (z ▸ hy)⟩⟩
  · rcases List.mem_cons.mp z with z | z
    · rw [z]; exact FD
    · exact (List.mem_append.mp z).elim (fun z => t1.sep c (List.mem_cons_of_mem _ z)) (t2.sep c)
  · rcases List.mem_cons.mp z with z | z
    · rw [z]; exact noD
    · exact (List.mem_append.mp z).elim (fun z => t1.dj c (List.mem_cons_of_mem _ z)) (t2.dj c)
  · exact ⟨fun _ _ z => z, fun b o n z => by
      rw [upd_ne]
      · exact z
      · intro w; subst w; exact n (.inl (.inr (List.mem_cons_self ..))), fun b z => by
      rcases z with z | z
      · exact .inl (.inl (.inl z))
      · rcases List.mem_cons.mp z with z | z
        · exact .inl (.inl (.inr (by rw [z]; exact List.mem_cons_self ..)))
        · exact (List.mem_append.mp z).elim (fun z => .inl (.inl (.inr (List.mem_cons_of_mem _ z)))) fun z => .inl (.inr z), fun _ _ z => .inl z⟩
theorem mem_disj (n : Nat) (own' : List Nat) : ∀ i, i ∈ (List.range n).filter (fun j => !decide (j ∈ own')) → i ∉ own' := fun i z => by
  have := (List.mem_filter.mp z).2
  simpa using this
theorem in_disj {n j : Nat} {own' : List Nat} (h1 : j < n) (h2 : j ∉ own') : j ∈ (List.range n).filter (fun j => !decide (j ∈ own')) := List.mem_filter.mpr ⟨List.mem_range.mpr h1, by simpa using h2⟩
/-- a step of one's own with a value held -/
theorem Tr.hold {p q : List Addr} (a : Tr F H (own fp) F1 H1 (fun c => own fp1 c ∨ c ∈ q)) : Tr F H (fun c => own fp c ∨ c ∈ p) F1 H1 (fun c => (own fp1 c ∨ c ∈ p) ∨ c ∈ q) :=
  a.weak (fun _ z => .inl z) fun c z => by
    rcases z with (z | z) | z
    · exact .inl (.inl z)
    · exact .inr (.inr z)
    · exact .inl (.inr z)
theorem Tr.hold0 {p : List Addr} (a : Tr F H (own fp) F1 H1 (own fp1)) : Tr F H (fun c => own fp c ∨ c ∈ p) F1 H1 (fun c => own fp1 c ∨ c ∈ p) :=
  a.weak (fun _ z => .inl z) fun c z => by
    rcases z with z | z
    · exact .inl z
    · exact .inr (.inr z)
/-- the block's loop -/
theorem lc_loop {t : CT} {r : TG} {mc me : ME} {own' : List Nat} (hk : ∀ L, (∀ i, i ∈ L → i ∉ own') → GOk G L t r) {σ : L2.St} {D : Addr} {Q : VK} {J : It} {F0 H0 : Hp} {P : List Addr} {O0 : Addr → Prop} {ds : List EV.D} (ok : ItOk G J F0 P H0 ds) (hP : ∀ a, a ∈ P → ¬ O0 a) {F1 H1 : Hp} {fp1 : Nat → List Addr} {p1 : List Addr} {acc1 : List EV.D} {e1 : DEnv}
    (T1 : Tr F0 H0 O0 F1 H1 (fun a => own fp1 a ∨ a ∈ p1)) (s1 : SO G F1 H1 fp1 (L2.wipe σ own') e1) (l1 : ∀ i, i ∈ own' → ∀ d, e1[i]? ≠ some (some d)) (t1 : TO G F1 H1 fp1 p1 (.ref D) (.lst true acc1)) (h1 : COut G (L2.wipe σ own') F1 H1 fp1 p1 own' D Q (lcL own' t mc me ds acc1 e1)) :
    ∃ W : Nat → Nat → Hp → Prop, (∃ m, W 0 m H1) ∧ ∀ i m H, W i m H →
      (J.stop i H ∧ Q (.ref D) H) ∨ (J.go i H ∧ ∃ Nx : Hp → Prop, (∀ H', Nx H' → ∃ m', m' < m ∧ W (i + 1) m' H') ∧ ∀ x H', J.yld i H x H' → r x (L2.wipe σ own') H' fun σ2 H2 => L2.wipe σ2 own' = L2.wipe σ own' ∧ RdT G W0 mc σ2 H2 fun b H3 =>
        if b = true then RdE G W0 me σ2 H3 fun y H4 => ∃ acc, H4 D = some (.lst acc) ∧ acc.length < sizeLine ∧ Nx (upd H4 D (.lst (acc ++ [y]))) else Nx H3) := by
    refine ⟨fun i m H' => m + i = ds.length ∧ ∃ F fp p acc e, SO G F H' fp (L2.wipe σ own') e ∧ (∀ i, i ∈ own' → ∀ d, e[i]? ≠ some (some d)) ∧ TO G F H' fp p (.ref D) (.lst true acc) ∧ Tr F0 H0 O0 F H' (fun a => own fp a ∨ a ∈ p) ∧ COut G (L2.wipe σ own') F H' fp p own' D Q (lcL own' t mc me (ds.drop i) acc e),
      ⟨ds.length, rfl, F1, _, p1, acc1, _, s1, l1, t1, T1, h1⟩, ?_⟩
    rintro i m H2 ⟨hm, F2, fp2, p2, acc, e2, s2, l2, t2, T2, h2⟩
    have pP : ∀ a, a ∈ P → ∀ o, H0 a = some o → H2 a = some o := fun a z o w => T2.fr a o (hP a z) w
    cases qd : ds[i]? with
    | none =>
      have hi : ds.length ≤ i := List.getElem?_eq_none_iff.mp qd
      have he : i = ds.length := by omega
      rw [List.drop_of_length_le hi] at h2
      exact .inl ⟨by rw [he]; exact ok.stop F2 H2 T2.ff pP s2.sub, h2 F2 H2 fp2 p2 s2 l2 t2 Tr.refl⟩
    | some d =>
      obtain ⟨hi, hd⟩ := List.getElem?_eq_some_iff.mp qd
      obtain ⟨g1, g2⟩ := ok.go F2 H2 i d T2.ff pP s2.sub qd
      have ed : ds.drop i = d :: ds.drop (i + 1) := by rw [List.drop_eq_getElem_cons hi, hd]
      rw [ed] at h2
      unfold lcL at h2
      refine .inr ⟨g1, fun H' => ∃ F fp p acc e, SO G F H' fp (L2.wipe σ own') e ∧ (∀ i, i ∈ own' → ∀ d, e[i]? ≠ some (some d)) ∧ TO G F H' fp p (.ref D) (.lst true acc) ∧ Tr F0 H0 O0 F H' (fun a => own fp a ∨ a ∈ p) ∧ COut G (L2.wipe σ own') F H' fp p own' D Q (lcL own' t mc me (ds.drop (i + 1)) acc e), fun H' z => ⟨m - 1, by omega, by omega, z⟩, fun x H3 y => ?_⟩
      obtain ⟨F3, k1, k2, k3, k4, rx⟩ := g2 x H3 y
      have s3 := s2.grow k1 k2 k3 k4
      have tr3 : Tr F2 H2 (own fp2) F3 H3 (own fp2) := s2.growT k1 k2 k4
      cases q1 : put t d e2 with
      | none => rw [q1] at h2; exact h2.elim
      | some e3 =>
        rw [q1] at h2
        simp only at h2
        have hl3 := put_len t d e2 e3 q1
        refine hk ((List.range σ.length).filter fun j => !decide (j ∈ own')) (mem_disj _ own') s3 (TO.z rx) q1 fun σ4 fp4 s4 l4 o4 => ?_
        have ew : L2.wipe σ4 own' = L2.wipe σ own' := wipe_eq (by rw [s4.len, hl3, ← s2.len, wipe_length]) fun j h1 h2 => l4 j (in_disj h1 h2)
        have tr4 : Tr F2 H2 (own fp2) F3 H3 (own fp4) := tr3.drop fun c z => (o4 c z).elim id fun z => nomatch z
        refine ⟨ew, F3, fp4, e3, s4, ?_⟩
        have t4 : TO G F3 H3 fp4 p2 (.ref D) (.lst true acc) := t2.keep tr4 fun _ z => z
        cases q2 : mc e3 with
        | ok dc e4 =>
          rw [q2] at h2
          cases dc with
          | bl b =>
            intro F5 H5 fp5 s5 tr5
            have t5 : TO G F5 H5 fp5 p2 (.ref D) (.lst true acc) := t4.keep tr5 fun _ z => z
            have tr25 := tr4.trans tr5
            cases b with
            | true =>
              rw [if_pos rfl]
              simp only at h2
              refine RdE.iff.mpr ⟨F5, fp5, e4, s5, ?_⟩
              cases q3 : me e4 with
              | ok y5 e5 =>
                rw [q3] at h2
                simp only at h2
                split at h2
                · rename_i hL
                  intro v F6 H6 fp6 p6 s6 t6 tr6
                  have t7 : TO G F6 H6 fp6 p2 (.ref D) (.lst true acc) := t5.keep tr6 fun c z => .inl z
                  obtain ⟨vs, hv1, hv2, p8, s8, t8, tr8⟩ := TO.snoc t7 t6 (t5.apart tr6 fun c z => .inr z) s6
                  refine ⟨vs, hv1, by rw [hv2]; exact LIM_lineS (Nat.le_of_lt hL), F6, _, p8, _, _, ew ▸ s8.wipe own', wipeE_no own' e5, ⟨t8.r, t8.nd, t8.sep, fun c z w => t8.dj c z (own_wipe c w)⟩, T2.trans (((tr25.trans tr6).hold.trans tr8).drop fun c z => z.imp (own_wipe c) id), ?_⟩
                  refine COut.trans h2 (((tr25.trans tr6).hold.trans tr8).drop fun c z => z.imp (own_wipe c) id)
                · exact h2.elim
              | ex c d e5 => rw [q3] at h2; exact h2.elim
              | no => rw [q3] at h2; exact h2.elim
            | false =>
              rw [if_neg Bool.false_ne_true]
              simp only at h2
              refine ⟨F5, _, p2, acc, _, ew ▸ s5.wipe own', wipeE_no own' e4, ⟨t5.r, t5.nd, t5.sep, fun c z w => t5.dj c z (own_wipe c w)⟩, T2.trans (tr25.hold0.drop fun c z => z.imp (own_wipe c) id), ?_⟩
              exact COut.trans h2 (tr25.hold0.drop fun c z => z.imp (own_wipe c) id)
          | _ => exact h2.elim
        | ex c d e4 => rw [q2] at h2; exact h2.elim
        | no => rw [q2] at h2; exact h2.elim
theorem lc_new {own' : List Nat} {σ : L2.St} {D : Addr} (s1 : SO G F1 H1 fp1 σ e) (hD : H1 D = none) : SO G F1 (upd H1 D (.lst [])) (fun j => if j ∈ own' then [] else fp1 j) (L2.wipe σ own') (wipeE own' e) ∧
    TO G F1 (upd H1 D (.lst [])) (fun j => if j ∈ own' then [] else fp1 j) [D] (.ref D) (.lst true []) := ⟨(s1.new (o := .lst []) hD).wipe own', ⟨.lo upd_same .nil, by simp, fun c z => by
      rw [List.mem_singleton.mp z]; exact s1.fnone hD, fun c z w => by
      rw [List.mem_singleton.mp z] at w; exact s1.noown hD (own_wipe _ w)⟩⟩
theorem lc_end {own' : List Nat} {σ : L2.St} {D : Addr} {Q : VK} {rl : RL} (s1 : SO G F1 H1 fp1 σ e) (hD : H1 D = none) (tr1 : Tr F H (own fp) F1 H1 (own fp1)) (h : EOut G W σ F H fp Q (match rl with
      | .ok acc e2 => RE.ok (.lst true acc) (backE e own' e2)
      | .no => .no)) : COut G (L2.wipe σ own') F1 (upd H1 D (.lst [])) (fun j => if j ∈ own' then [] else fp1 j) [D] own' D Q rl := by
  cases rl with
  | no => exact h.elim
  | ok acc e2 =>
    intro F' H' fp' p' s' l' t' tr
    obtain ⟨fp2, s3, o3⟩ := SO.back s1 tr.ff (s'.unwipe l') own'
    refine h (.ref D) F' H' fp2 p' s3 ⟨t'.r, t'.nd, t'.sep, fun c z w => t'.dj c z (o3 c w)⟩ ?_
    refine (tr1.trans ((Tr.new hD).trans (tr.weak (P := fun c => own fp1 c ∨ c = D) (P1 := fun c => own fp' c ∨ c ∈ p') (fun c z => z.imp (own_wipe c) fun z => List.mem_singleton.mp z) fun _ z => .inl z))).drop fun c z => z.imp (o3 c) id
theorem LkOk.no {l : Lk} {P : List Addr} {σ : L2.St} (lk : LkOk G σ F1 H1 fp1 P l) : ∀ a, a ∈ P → ¬ own fp1 a := fun a z => by
  cases l with
  | none =>
    have lk : P = [] := lk
    subst lk; cases z
  | some jd => obtain ⟨v, _, t⟩ := lk; exact t.dj a z
theorem LkOk.th {l : Lk} {P : List Addr} {σ : L2.St} (lk : LkOk G σ F1 H1 fp1 P l) : ∀ a, a ∈ P → ∃ o, H1 a = some o := fun a z => by
  cases l with
  | none =>
    have lk : P = [] := lk
    subst lk; cases z
  | some jd => obtain ⟨v, _, t⟩ := lk; exact t.r.there a z
/-- from the walk's start to the list's -/
theorem Tr.lcNew {own' : List Nat} {D : Addr} (hD : H1 D = none) : Tr F1 H1 (own fp1) F1 (upd H1 D (.lst [])) (fun a => own (fun j => if j ∈ own' then [] else fp1 j) a ∨ a ∈ [D]) :=
  (Tr.new hD).drop fun c z => z.imp (own_wipe c) fun z => List.mem_singleton.mp z
theorem lc_plain {t : CT} {r : TG} {mi : MI} {mc me : ME} {own' : List Nat} (hk : ∀ L, (∀ i, i ∈ L → i ∉ own') → GOk G L t r) {σ : L2.St} {H : Hp} {Q : VK} (h : RdE G W (mLc own' t mi mc me) σ H Q) :
    tLc (RdI G W mi) r (RdT G W0 mc) (RdE G W0 me) own' σ H Q := by
  obtain ⟨F, fp, e, s, h⟩ := RdE.iff.mp h
  refine ⟨F, fp, e, s, ?_⟩
  unfold mLc at h
  cases q : mi e with
  | ok ds l e1 =>
    rw [q] at h
    intro J F1 H1 fp1 P s1 lk tr1 ok D hD
    have h := EOut.unlk tr1 lk h
    obtain ⟨s2, tD⟩ := lc_new (own' := own') s1 hD
    exact lc_loop hk ok lk.no (Tr.lcNew hD) s2 (wipeE_no own' e1) tD (lc_end s1 hD Tr.refl h)
  | ex c d e1 => rw [q] at h; exact h
  | no => rw [q] at h; exact h
/-- two clauses -/
def lcL2 (own' : List Nat) (tg : CT) (mc : ME) (own1 : List Nat) (tg1 : CT) (mi1 : MI) (mc1 me : ME) : List D → List D → DEnv → RL
  | [], acc, e => .ok acc e
  | d :: ds, acc, e => match put tg d e with
    | some e1 => match mc e1 with
      | .ok (.bl true) e2 => match mi1 e2 with
        | .ok ds1 none e3 => match lcL own1 tg1 mc1 me ds1 acc (wipeE own1 e3) with
          | .ok acc1 e4 => lcL2 own' tg mc own1 tg1 mi1 mc1 me ds acc1 (wipeE own' e4)
          | .no => .no
        | _ => .no
      | .ok (.bl false) e2 => lcL2 own' tg mc own1 tg1 mi1 mc1 me ds acc (wipeE own' e2)
      | _ => .no
    | none => .no
def mLc2 (own' : List Nat) (tg : CT) (mi : MI) (mc : ME) (own1 : List Nat) (tg1 : CT) (mi1 : MI) (mc1 me : ME) : ME := fun e => match mi e with
  | .ok ds l e1 => RE.unlk l (match lcL2 own' tg mc own1 tg1 mi1 mc1 me ds [] (wipeE own' e1) with
    | .ok acc e2 => .ok (.lst true acc) (backE e1 own' e2)
    | .no => .no)
  | .ex c d e1 => .ex c d e1
  | .no => .no
theorem lc2_plain {t t1 : CT} {r r1 : TG} {mi mi1 : MI} {mc mc1 me : ME} {own' own1 : List Nat} (hsub : ∀ i, i ∈ own1 → i ∈ own') (hk : ∀ L, (∀ i, i ∈ L → i ∉ own') → GOk G L t r) (hk1 : ∀ L, (∀ i, i ∈ L → i ∉ own1) → GOk G L t1 r1) {σ : L2.St} {H : Hp} {Q : VK} (h : RdE G W (mLc2 own' t mi mc own1 t1 mi1 mc1 me) σ H Q) :
    tLc2 (RdI G W mi) r (RdT G W0 mc) (RdI G W0 mi1) r1 (RdT G W0 mc1) (RdE G W0 me) own' own1 σ H Q := by
  obtain ⟨F, fp, e, s, h⟩ := RdE.iff.mp h
  refine ⟨F, fp, e, s, ?_⟩
  unfold mLc2 at h
  cases q : mi e with
  | ok ds l e1 =>
    rw [q] at h
    intro J F1 H1 fp1 P s1 lk tr1 ok D hD
    have h := EOut.unlk tr1 lk h
    obtain ⟨s2, tD⟩ := lc_new (own' := own') s1 hD
    have c0 := lc_end (own' := own') (D := D) s1 hD Tr.refl h
    refine ⟨fun i m H' => m + i = ds.length ∧ ∃ F fp p acc e, SO G F H' fp (L2.wipe σ own') e ∧ (∀ i, i ∈ own' → ∀ d, e[i]? ≠ some (some d)) ∧ TO G F H' fp p (.ref D) (.lst true acc) ∧ Tr F1 H1 (own fp1) F H' (fun a => own fp a ∨ a ∈ p) ∧ COut G (L2.wipe σ own') F H' fp p own' D Q (lcL2 own' t mc own1 t1 mi1 mc1 me (ds.drop i) acc e),
      ⟨ds.length, rfl, F1, _, [D], [], _, s2, wipeE_no own' e1, tD, Tr.lcNew hD, c0⟩, ?_⟩
    rintro i m H2 ⟨hm, F2, fp2, p2, acc, e2, s2, l2, t2, T2, h2⟩
    have pP : ∀ a, a ∈ P → ∀ o, H1 a = some o → H2 a = some o := fun a z o w => T2.fr a o (lk.no a z) w
    cases qd : ds[i]? with
    | none =>
      have hi : ds.length ≤ i := List.getElem?_eq_none_iff.mp qd
      have he : i = ds.length := by omega
      rw [List.drop_of_length_le hi] at h2
      exact .inl ⟨by rw [he]; exact ok.stop F2 H2 T2.ff pP s2.sub, h2 F2 H2 fp2 p2 s2 l2 t2 Tr.refl⟩
    | some d =>
      obtain ⟨hi, hd⟩ := List.getElem?_eq_some_iff.mp qd
      obtain ⟨g1, g2⟩ := ok.go F2 H2 i d T2.ff pP s2.sub qd
      have ed : ds.drop i = d :: ds.drop (i + 1) := by rw [List.drop_eq_getElem_cons hi, hd]
      rw [ed] at h2
      unfold lcL2 at h2
      refine .inr ⟨g1, fun H' => ∃ F fp p acc e, SO G F H' fp (L2.wipe σ own') e ∧ (∀ i, i ∈ own' → ∀ d, e[i]? ≠ some (some d)) ∧ TO G F H' fp p (.ref D) (.lst true acc) ∧ Tr F1 H1 (own fp1) F H' (fun a => own fp a ∨ a ∈ p) ∧ COut G (L2.wipe σ own') F H' fp p own' D Q (lcL2 own' t mc own1 t1 mi1 mc1 me (ds.drop (i + 1)) acc e), fun H' z => ⟨m - 1, by omega, by omega, z⟩, fun x H3 y => ?_⟩
      obtain ⟨F3, k1, k2, k3, k4, rx⟩ := g2 x H3 y
      have s3 := s2.grow k1 k2 k3 k4
      have tr3 : Tr F2 H2 (own fp2) F3 H3 (own fp2) := s2.growT k1 k2 k4
      cases q1 : put t d e2 with
      | none => rw [q1] at h2; exact h2.elim
      | some e3 =>
        rw [q1] at h2
        simp only at h2
        have hl3 := put_len t d e2 e3 q1
        refine hk ((List.range σ.length).filter fun j => !decide (j ∈ own')) (mem_disj _ own') s3 (TO.z rx) q1 fun σ4 fp4 s4 l4 o4 => ?_
        have el : σ4.length = σ.length := by rw [s4.len, hl3, ← s2.len, wipe_length]
        have ew : L2.wipe σ4 own' = L2.wipe σ own' := wipe_eq el fun j h1 h2 => l4 j (in_disj h1 h2)
        have ew1 : L2.wipe (L2.wipe σ4 own1) own' = L2.wipe σ own' := wipe_eq (by rw [wipe_length, el]) fun j h1 h2 => by
          rw [wipe_out (fun z => h2 (hsub j z))]; exact l4 j (in_disj h1 h2)
        have tr4 : Tr F2 H2 (own fp2) F3 H3 (own fp4) := tr3.drop fun c z => (o4 c z).elim id fun z => nomatch z
        refine ⟨ew, F3, fp4, e3, s4, ?_⟩
        have t4 : TO G F3 H3 fp4 p2 (.ref D) (.lst true acc) := t2.keep tr4 fun _ z => z
        cases q2 : mc e3 with
        | ok dc e4 =>
          rw [q2] at h2
          cases dc with
          | bl b =>
            intro F5 H5 fp5 s5 tr5
            have t5 : TO G F5 H5 fp5 p2 (.ref D) (.lst true acc) := t4.keep tr5 fun _ z => z
            have tr25 := tr4.trans tr5
            cases b with
            | true =>
              rw [if_pos rfl]
              simp only at h2
              refine ⟨F5, fp5, e4, s5, ?_⟩
              cases q3 : mi1 e4 with
              | ok ds1 l1 e5 =>
                cases l1 with
                | some jd => rw [q3] at h2; exact h2.elim
                | none =>
                rw [q3] at h2
                simp only at h2
                intro J1 F6 H6 fp6 P1 s6 lk1 tr6 ok1
                have eP1 : P1 = [] := lk1
                subst eP1
                have tr6 : Tr F5 H5 (own fp5) F6 H6 (own fp6) := tr6.drop fun _ z => .inl z
                have t6 : TO G F6 H6 fp6 p2 (.ref D) (.lst true acc) := t5.keep tr6 fun _ z => z
                have tr26 := tr25.trans tr6
                refine lc_loop (Q := fun _ H' => ∃ F fp p acc e, SO G F H' fp (L2.wipe σ own') e ∧ (∀ i, i ∈ own' → ∀ d, e[i]? ≠ some (some d)) ∧ TO G F H' fp p (.ref D) (.lst true acc) ∧ Tr F1 H1 (own fp1) F H' (fun a => own fp a ∨ a ∈ p) ∧ COut G (L2.wipe σ own') F H' fp p own' D Q (lcL2 own' t mc own1 t1 mi1 mc1 me (ds.drop (i + 1)) acc e)) hk1 ok1 (fun _ z => nomatch z) (O0 := fun a => own fp6 a ∨ a ∈ p2) (Tr.refl.drop fun c z => z.imp (own_wipe c) id) (s6.wipe own1) (wipeE_no own1 e5) ⟨t6.r, t6.nd, t6.sep, fun c z w => t6.dj c z (own_wipe c w)⟩ ?_
                cases q4 : lcL own1 t1 mc1 me ds1 acc (wipeE own1 e5) with
                | no => rw [q4] at h2; exact h2.elim
                | ok acc7 e7 =>
                  rw [q4] at h2
                  simp only at h2
                  intro F7 H7 fp7 p7 s7 l7 t7 tr7
                  refine ⟨F7, _, p7, acc7, _, ew1 ▸ s7.wipe own', wipeE_no own' e7, ⟨t7.r, t7.nd, t7.sep, fun c z w => t7.dj c z (own_wipe c w)⟩, T2.trans ((tr26.hold0.trans (tr7.weak (fun c z => z.imp (own_wipe c) id) fun _ z => .inl z)).drop fun c z => z.imp (own_wipe c) id), ?_⟩
                  exact COut.trans h2 ((tr26.hold0.trans (tr7.weak (fun c z => z.imp (own_wipe c) id) fun _ z => .inl z)).drop fun c z => z.imp (own_wipe c) id)
              | ex c d e5 => rw [q3] at h2; exact h2.elim
              | no => rw [q3] at h2; exact h2.elim
            | false =>
              rw [if_neg Bool.false_ne_true]
              simp only at h2
              refine ⟨F5, _, p2, acc, _, ew ▸ s5.wipe own', wipeE_no own' e4, ⟨t5.r, t5.nd, t5.sep, fun c z w => t5.dj c z (own_wipe c w)⟩, T2.trans (tr25.hold0.drop fun c z => z.imp (own_wipe c) id), ?_⟩
              exact COut.trans h2 (tr25.hold0.drop fun c z => z.imp (own_wipe c) id)
          | _ => exact h2.elim
        | ex c d e4 => rw [q2] at h2; exact h2.elim
        | no => rw [q2] at h2; exact h2.elim
  | ex c d e1 => rw [q] at h; exact h
  | no => rw [q] at h; exact h
theorem se_lc {elt tg iter : Expr} {ifs : List Expr} {scope : Scope} {own' : List (Str × Nat)} {t : CT} {r : TG} {mi : MI} {mc me : ME} (hc : X.calm = true) (hN : X.N.Nodup) (hi : SI X g W tg iter mi) (ok : BlkOk X.N X.env.scope scope own')
    (hg : ∀ (s : Shared) (H : Hp) (C : Addr) (cl : List (Str × Addr)) (fp : List Addr), PG (X.blk s H scope (compEnvC scope cl C X.env) fp) tg r) (hk : ∀ L, (∀ i, i ∈ L → i ∉ own'.map (·.2)) → GOk (gOf X g) L t r)
    (ht : ∀ (s : Shared) (H : Hp) (C : Addr) (cl : List (Str × Addr)) (fp : List Addr), PTs (X.blk s H scope (compEnvC scope cl C X.env) fp) ifs (RdT (gOf X g) W0 mc))
    (he : ∀ (s : Shared) (H : Hp) (C : Addr) (cl : List (Str × Addr)) (fp : List Addr), SE (X.blk s H scope (compEnvC scope cl C X.env) fp) g W0 elt me) (hs : ∀ x, foldedSetIterable iter X.env x = pure x) :
    SE X g W (.ListComp elt [⟨tg, iter, ifs, 0⟩] scope pos) (mLc (own'.map (·.2)) t mi mc me) := PE.imp (pe_lc hc hN hi ok hg ht he hs) fun σ H Q h => lc_plain hk h
theorem ss_setLc {i : Nat} {y : Str} {py spos : Pos} {elt tg iter : Expr} {ifs : List Expr} {scope : Scope} {own' : List (Str × Nat)} {t : CT} {r : TG} {mi : MI} {mc me : ME} (hc : X.calm = true) (hN : X.N.Nodup) (hy : X.N[i]? = some y) (hyl : X.env.scope.names.lookup y = some .local)
    (hsw : swapsWith (.ListComp elt [⟨tg, iter, ifs, 0⟩] scope pos) (some (.Name y py)) spos.line X.env = pure true) (hL : i ∉ L) (hi : SI X g W tg iter mi) (ok : BlkOk X.N X.env.scope scope own')
    (hg : ∀ (s : Shared) (H : Hp) (C : Addr) (cl : List (Str × Addr)) (fp : List Addr), PG (X.blk s H scope (compEnvC scope cl C X.env) fp) tg r) (hk : ∀ L, (∀ i, i ∈ L → i ∉ own'.map (·.2)) → GOk (gOf X g) L t r)
    (ht : ∀ (s : Shared) (H : Hp) (C : Addr) (cl : List (Str × Addr)) (fp : List Addr), PTs (X.blk s H scope (compEnvC scope cl C X.env) fp) ifs (RdT (gOf X g) W0 mc))
    (he : ∀ (s : Shared) (H : Hp) (C : Addr) (cl : List (Str × Addr)) (fp : List Addr), SE (X.blk s H scope (compEnvC scope cl C X.env) fp) g W0 elt me) (hs : ∀ x, foldedSetIterable iter X.env x = pure x) :
    SS X g W L (.Assign [.Name y py] (.ListComp elt [⟨tg, iter, ifs, 0⟩] scope pos) spos) (mAsg (.v i) (mLc (own'.map (·.2)) t mi mc me)) :=
  PS.imp (ps_setLc hc hN hy hyl hsw hi ok hg ht he hs) fun D σ H h => lc_plain hk (RdS.asg (gok_v hL) h)
theorem se_lc2 {elt tg iter tg1 iter1 : Expr} {ifs ifs1 : List Expr} {scope : Scope} {own' : List (Str × Nat)} {own1 : List Nat} {t t1 : CT} {r r1 : TG} {mi mi1 : MI} {mc mc1 me : ME} (hc : X.calm = true) (hN : X.N.Nodup) (hi : SI X g W tg iter mi) (ok : BlkOk X.N X.env.scope scope own') (hsub : ∀ i ∈ own1, i ∈ own'.map (·.2))
    (hg : ∀ (s : Shared) (H : Hp) (C : Addr) (cl : List (Str × Addr)) (fp : List Addr), PG (X.blk s H scope (compEnvC scope cl C X.env) fp) tg r) (hk : ∀ L, (∀ i, i ∈ L → i ∉ own'.map (·.2)) → GOk (gOf X g) L t r)
    (ht : ∀ (s : Shared) (H : Hp) (C : Addr) (cl : List (Str × Addr)) (fp : List Addr), PTs (X.blk s H scope (compEnvC scope cl C X.env) fp) ifs (RdT (gOf X g) W0 mc))
    (he : ∀ (s : Shared) (H : Hp) (C : Addr) (cl : List (Str × Addr)) (fp : List Addr), SE (X.blk s H scope (compEnvC scope cl C X.env) fp) g W0 elt me) (hs : ∀ x, foldedSetIterable iter X.env x = pure x)
    (hi1 : ∀ (s : Shared) (H : Hp) (C : Addr) (cl : List (Str × Addr)) (fp : List Addr), SI (X.blk s H scope (compEnvC scope cl C X.env) fp) g W0 tg1 iter1 mi1)
    (hg1 : ∀ (s : Shared) (H : Hp) (C : Addr) (cl : List (Str × Addr)) (fp : List Addr), PG (X.blk s H scope (compEnvC scope cl C X.env) fp) tg1 r1) (hk1 : ∀ L, (∀ i, i ∈ L → i ∉ own1) → GOk (gOf X g) L t1 r1)
    (ht1 : ∀ (s : Shared) (H : Hp) (C : Addr) (cl : List (Str × Addr)) (fp : List Addr), PTs (X.blk s H scope (compEnvC scope cl C X.env) fp) ifs1 (RdT (gOf X g) W0 mc1))
    (hs1 : ∀ env x, foldedSetIterable iter1 env x = pure x) :
    SE X g W (.ListComp elt [⟨tg, iter, ifs, 0⟩, ⟨tg1, iter1, ifs1, 0⟩] scope pos) (mLc2 (own'.map (·.2)) t mi mc own1 t1 mi1 mc1 me) := PE.imp (pe_lc2 hc hN hi ok hsub hg ht hi1 hg1 ht1 he hs hs1) fun σ H Q h => lc2_plain hsub hk hk1 h
end
end EV

/-! EvL: calls of defs. -/
namespace EV
open PySem PySem.Spec PyProof.Rows L2

def lentV : List Bool → List V → List V
  | true :: m, v :: vs => v :: lentV m vs
  | false :: m, _ :: vs => lentV m vs
  | _, _ => []
/-- what a def promises: its parameters' data, what it gives back of those that are lent -/
def Prom (G : GI) (mask : List Bool) (C : List D → RC) : Sp := fun vs H Q E => vs.length = mask.length ∧ ∃ F p ds, ROs G F H p vs ds ∧ p.Nodup ∧ (∀ a, a ∈ p → F a = none) ∧ (∀ a o, F a = some o → H a = some o) ∧
  match C ds with
  | .ok d fin => ∀ v F' H' q r, RO G F' H' q v d → ROs G F' H' r (lentV mask vs) fin → (q ++ r).Nodup → (∀ a, a ∈ q ++ r → F' a = none) → (∀ a o, F' a = some o → H' a = some o) → Tr F H (· ∈ p) F' H' (· ∈ q ++ r) → Q v H'
  | .ex c d fin => ∀ dx v F' H' q r, RO G F' H' q v d → ROs G F' H' r (lentV mask vs) fin → (q ++ r).Nodup → (∀ a, a ∈ q ++ r → F' a = none) → (∀ a o, F' a = some o → H' a = some o) → Tr F H (· ∈ p) F' H' (· ∈ q ++ r) →
      H' dx = some (.xd [(G.xn c, v)]) → E (.ref (G.ca c)) (some dx) H'
  | .no => False
theorem Prom.len {G : GI} {mask : List Bool} {C : List D → RC} {ps : List Str} (h : mask.length = ps.length) : ∀ vs H Q E, Prom G mask C vs H Q E → vs.length = ps.length := fun vs H Q E z => z.1.trans h
/-- what is passed -/
def effD (e : DEnv) : List PA1 → Option (List D)
  | [] => some []
  | .t d :: r => (effD e r).map (d :: ·)
  | .l j :: r => match e[j]? with
    | some (some d) => (effD e r).map (d :: ·)
    | _ => none
def lents : List PA1 → List Nat
  | [] => []
  | .t _ :: r => lents r
  | .l j :: r => j :: lents r
/-- the slots while their content is lent -/
def minus : List PA1 → DEnv → DEnv
  | [], e => e
  | .t _ :: r, e => minus r e
  | .l j :: r, e => minus r (e.set j none)
/-- given back -/
def bk : List Bool → List PA1 → List D → DEnv → Option DEnv
  | [], [], [], e => some e
  | true :: m, .l j :: as, d :: fin, e => bk m as fin (e.set j (some d))
  | true :: m, .t _ :: as, _ :: fin, e => bk m as fin e
  | false :: m, .t _ :: as, fin, e => bk m as fin e
  | _, _, _, _ => none
/-- f(..) -/
def mCall (C : List D → RC) (mask : List Bool) (dfl : List D) (ms : List Ar) : ME := fun e => match mA ms e with
  | .ok as e1 => match effD e1 as with
    | some ds => if (lents as).Nodup ∧ (as.length + dfl.length = mask.length) then match C (ds ++ dfl) with
      | .ok d fin => match bk mask (as ++ dfl.map .t) fin (minus as e1) with
        | some e2 => .ok d e2
        | none => .no
      | .ex c d fin => match bk mask (as ++ dfl.map .t) fin (minus as e1) with
        | some e2 => .ex c d e2
        | none => .no
      | .no => .no
      else .no
    | none => .no
  | .ex c d e1 => .ex c d e1
  | .no => .no
section
variable {X : Cx} {N : List Str} {sc : Scope} {fr : List Str} {g : GF} {G : GI} {W : WX} {L : List Nat} {a b c : Expr} {es : List Expr} {pos p2 p3 p4 : Pos} {m n t : ME} {F H F1 H1 F' H' : Hp} {fp fp1 fp' : Nat → List Addr} {σ σ1 : L2.St} {e e' : DEnv}
theorem set_self {i : Nat} {v : V} {σ : L2.St} (h : σ[i]? = some (some v)) : σ.set i (some v) = σ := by
  refine List.ext_getElem? fun j => ?_
  by_cases hj : j = i
  · subst hj
    have hl : j < σ.length := (List.getElem?_eq_some_iff.mp h).1
    rw [List.getElem?_set_self hl, h]
  · rw [List.getElem?_set_ne (Ne.symm hj)]
theorem effD_set {j : Nat} {e : DEnv} : ∀ {as : List PA1}, j ∉ lents as → effD (e.set j none) as = effD e as
  | [], _ => rfl
  | .t d :: r, h => by
    show (effD _ r).map _ = (effD e r).map _
    rw [effD_set (as := r) h]
  | .l i :: r, h => by
    have h1 : j ≠ i := fun z => h (z ▸ List.mem_cons_self ..)
    have h2 : j ∉ lents r := fun z => h (List.mem_cons_of_mem _ z)
    unfold effD
    rw [List.getElem?_set_ne h1, effD_set h2]
/-- what lies elsewhere stays -/
theorem SO.frame {O' : Addr → Prop} {p : List Addr} (s : SO G F H fp σ e) (hp : ∀ a, a ∈ p → ¬ own fp a) (t : Tr F H (· ∈ p) F' H' O') (sb : ∀ a o, F' a = some o → H' a = some o) : SO G F' H' fp σ e where
  sub := sb
  rep := fun i d h => by
    obtain ⟨v, q, r⟩ := s.rep i d h
    exact ⟨v, q, r.mono t.ff fun a z o w => t.fr a o (fun u => hp a u ⟨i, z⟩) w⟩
  nd := s.nd
  dj := s.dj
  sep := fun i a z => by
    cases q : F' a with
    | none => rfl
    | some o =>
      rcases t.fz a o q with w | w | w
      · rw [s.sep i a z] at w; cases w
      · exact absurd ⟨i, z⟩ (hp a w)
      · obtain ⟨o, ho⟩ := s.th i a z
        rw [w] at ho; cases ho
  th := fun i a z => by
    obtain ⟨o, ho⟩ := s.th i a z
    exact ⟨o, t.fr a o (fun u => hp a u ⟨i, z⟩) ho⟩
  len := s.len
theorem take_args : ∀ {p : List Addr} {vs : List V} {as : List PA1} {fp : Nat → List Addr} {e : DEnv} {ds : List D}, AR G F H σ p vs as → SO G F H fp σ e → p.Nodup → (∀ a, a ∈ p → F a = none) → (∀ a, a ∈ p → ¬ own fp a) → (lents as).Nodup → effD e as = some ds →
    ∃ q fp0, ROs G F H q vs ds ∧ q.Nodup ∧ (∀ a, a ∈ q → F a = none) ∧ SO G F H fp0 σ (minus as e) ∧ (∀ a, a ∈ q → ¬ own fp0 a) ∧ (∀ a, own fp0 a → own fp a) ∧ ∀ a, a ∈ q → own fp a ∨ a ∈ p
  | _, _, _, fp, e, ds, .nil, s, _, _, _, _, h => by
    injection h with h; subst h
    exact ⟨[], fp, .nil, List.nodup_nil, fun _ z => (nomatch z), s, fun _ z => (nomatch z), fun _ z => z, fun _ z => (nomatch z)⟩
  | _, _, _, fp, e, ds, .t (p := f) (q := p) (d := d) (as := as) r rs, s, nd, sep, dj, hl, h => by
    have h : (effD e as).map (d :: ·) = some ds := h
    obtain ⟨n1, n2, n3⟩ := List.nodup_append.mp nd
    cases q2 : effD e as with
    | none => rw [q2] at h; cases h
    | some ds1 =>
      rw [q2] at h
      injection h with h; subst h
      obtain ⟨q, fp0, h1, h2, h3, h4, h5, h6, h7⟩ := take_args rs s n2 (fun a z => sep a (List.mem_append_right _ z)) (fun a z => dj a (List.mem_append_right _ z)) hl q2
      refine ⟨f ++ q, fp0, .cons r h1, List.nodup_append.mpr ⟨n1, h2, fun x hx y hy z => ?_⟩, fun a z => ?_, h4, fun a z w => ?_, h6, fun a z => ?_⟩
      · subst z
        rcases h7 x hy with w | w
        · exact dj x (List.mem_append_left _ hx) w
        · exact n3 x hx x w rfl
      · exact (List.mem_append.mp z).elim (fun z => sep a (List.mem_append_left _ z)) (h3 a)
      · exact (List.mem_append.mp z).elim (fun z => dj a (List.mem_append_left _ z) (h6 a w)) (fun z => h5 a z w)
      · exact (List.mem_append.mp z).elim (fun z => .inr (List.mem_append_left _ z)) (fun z => (h7 a z).imp id (List.mem_append_right _))
  | _, _, _, fp, e, ds, .l (q := p) (j := j) (as := as) (v := v) hv rs, s, nd, sep, dj, hl, h => by
    obtain ⟨l1, l2⟩ := List.nodup_cons.mp (show (j :: lents as).Nodup from hl)
    unfold effD at h
    cases q1 : e[j]? with
    | none => rw [q1] at h; cases h
    | some o =>
      cases o with
      | none => rw [q1] at h; cases h
      | some d =>
        rw [q1] at h
        simp only at h
        cases q2 : effD e as with
        | none => rw [q2] at h; cases h
        | some ds1 =>
          rw [q2] at h
          injection h with h; subst h
          obtain ⟨v1, hv1, t1⟩ := s.take q1
          rw [hv] at hv1; cases hv1
          obtain ⟨q, fp0, h1, h2, h3, h4, h5, h6, h7⟩ := take_args rs (s.forget (i := j)) nd sep (fun a z w => dj a z (own_take a (.inl w))) l2 ((effD_set l1).trans q2)
          refine ⟨fp j ++ q, fp0, .cons t1.r h1, List.nodup_append.mpr ⟨t1.nd, h2, fun x hx y hy z => ?_⟩, fun a z => ?_, h4, fun a z w => ?_, fun a z => own_take a (.inl (h6 a z)), fun a z => ?_⟩
          · subst z
            rcases h7 x hy with w | w
            · exact t1.dj x hx w
            · exact dj x w ⟨j, hx⟩
          · exact (List.mem_append.mp z).elim (t1.sep a) (h3 a)
          · exact (List.mem_append.mp z).elim (fun z => t1.dj a z (h6 a w)) (fun z => h5 a z w)
          · exact (List.mem_append.mp z).elim (fun z => .inl ⟨j, z⟩) (fun z => (h7 a z).imp (fun z => own_take a (.inl z)) id)
theorem give_back {Fa Ha : Hp} : ∀ {p : List Addr} {vs : List V} {as : List PA1} {mask : List Bool} {fp0 : Nat → List Addr} {e0 e2 : DEnv} {fin : List D} {r : List Addr}, AR G Fa Ha σ p vs as → SO G F H fp0 σ e0 → ROs G F H r (lentV mask vs) fin → r.Nodup → (∀ a, a ∈ r → F a = none) → (∀ a, a ∈ r → ¬ own fp0 a) →
    bk mask as fin e0 = some e2 → ∃ fp2, SO G F H fp2 σ e2 ∧ ∀ a, own fp2 a → own fp0 a ∨ a ∈ r
  | _, _, _, mask, fp0, e0, e2, fin, r, .nil, s, ro, nd, sep, dj, h => by
    cases mask with
    | nil =>
      cases fin with
      | nil => injection h with h; subst h; exact ⟨fp0, s, fun _ z => .inl z⟩
      | cons _ _ => cases h
    | cons m ms => cases m <;> cases h
  | _, _, _, mask, fp0, e0, e2, fin, r, .t (vs := vs) (v := v) (as := as) r1 rs, s, ro, nd, sep, dj, h => by
    cases mask with
    | nil => cases h
    | cons m ms =>
      cases m with
      | false => exact give_back rs s ro nd sep dj h
      | true =>
        cases fin with
        | nil => cases h
        | cons d fin =>
          obtain ⟨v1, ws, f, fs, ev, ep, q1, q2⟩ := ro.invD
          injection ev with e1 e2
          subst e1 e2 ep
          obtain ⟨n1, n2, n3⟩ := List.nodup_append.mp nd
          obtain ⟨fp2, h1, h2⟩ := give_back rs s q2 n2 (fun a z => sep a (List.mem_append_right _ z)) (fun a z => dj a (List.mem_append_right _ z)) h
          exact ⟨fp2, h1, fun a z => (h2 a z).imp id (List.mem_append_right _)⟩
  | _, _, _, mask, fp0, e0, e2, fin, r, .l (vs := vs) (v := v) (as := as) (j := j) hv rs, s, ro, nd, sep, dj, h => by
    cases mask with
    | nil => cases h
    | cons m ms =>
      cases m with
      | false => cases fin <;> cases h
      | true =>
        cases fin with
        | nil => cases h
        | cons d fin =>
          obtain ⟨v1, ws, f, fs, ev, ep, q1, q2⟩ := ro.invD
          injection ev with e1 e2
          subst e1 e2 ep
          obtain ⟨n1, n2, n3⟩ := List.nodup_append.mp nd
          have s1 := s.store (i := j) (p := f) (v := v) (d := d) ⟨q1, n1, fun a z => sep a (List.mem_append_left _ z), fun a z => dj a (List.mem_append_left _ z)⟩
          rw [set_self hv] at s1
          obtain ⟨fp2, h1, h2⟩ := give_back rs s1 q2 n2 (fun a z => sep a (List.mem_append_right _ z)) (fun a z w => by
            rcases own_store a w with w | w
            · exact dj a (List.mem_append_right _ z) w
            · exact n3 a w a z rfl) h
          refine ⟨fp2, h1, fun a z => ?_⟩
          rcases h2 a z with z | z
          · exact (own_store a z).imp id (List.mem_append_left _)
          · exact .inr (List.mem_append_right _ z)
theorem AR.app : ∀ {p : List Addr} {vs : List V} {as : List PA1} {dvs : List V} {dfl : List D}, AR G F H σ p vs as → ROs G F H [] dvs dfl → AR G F H σ p (vs ++ dvs) (as ++ dfl.map .t)
  | _, _, _, dvs, dfl, .nil, r => by
    have go : ∀ {dvs : List V} {dfl : List D}, ROs G F H [] dvs dfl → AR G F H σ [] dvs (dfl.map .t) := by
      intro dvs
      induction dvs with
      | nil => intro dfl r; cases dfl with
        | nil => exact .nil
        | cons d ds => obtain ⟨v, ws, f, fs, e1, _⟩ := r.invD; cases e1
      | cons v vs ih =>
        intro dfl r
        cases dfl with
        | nil => obtain ⟨e1, _⟩ := r.invN; cases e1
        | cons d ds =>
          obtain ⟨r1, r2⟩ := r.unconsZ
          exact AR.t (p := []) (q := []) r1 (ih r2)
    exact go r
  | _, _, _, dvs, dfl, .t r1 rs, r => .t r1 (AR.app rs r)
  | _, _, _, dvs, dfl, .l hv rs, r => .l hv (AR.app rs r)
theorem AR.length : ∀ {p : List Addr} {vs : List V} {as : List PA1}, AR G F H σ p vs as → vs.length = as.length
  | _, _, _, .nil => rfl
  | _, _, _, .t _ rs => congrArg (· + 1) (AR.length rs)
  | _, _, _, .l _ rs => congrArg (· + 1) (AR.length rs)
theorem call_plain {C : List D → RC} {mask : List Bool} {dfl : List D} {dvs : List V} {ms : List Ar} (hz : ∀ F H, ROs G F H [] dvs dfl) {Q : VK} (h : RdE G W (mCall C mask dfl ms) σ H Q) : RdA G W ms σ H (fun vs H1 => Prom G mask C (vs ++ dvs) H1 Q (WE W σ)) := by
  obtain ⟨F, fp, e, s, h⟩ := RdE.iff.mp h
  refine ⟨F, fp, e, s, ?_⟩
  unfold mCall at h
  cases q : mA ms e with
  | ex c d e1 => rw [q] at h; exact h
  | no => rw [q] at h; exact h
  | ok as e1 =>
    rw [q] at h
    simp only at h
    intro vs F1 H1 fp1 p s1 t1 tr1
    cases q2 : effD e1 as with
    | none => rw [q2] at h; exact h.elim
    | some ds =>
      rw [q2] at h
      simp only at h
      split at h
      · rename_i hh
        obtain ⟨hl, hlen⟩ := hh
        obtain ⟨q, fp0, r1, r2, r3, s0, r5, r6, r7⟩ := take_args t1.r s1 t1.nd t1.sep t1.dj hl q2
        have ra : ROs G F1 H1 q (vs ++ dvs) (ds ++ dfl) := by
          have := r1.append (hz F1 H1)
          rwa [List.append_nil] at this
        have rA := t1.r.app (hz F1 H1)
        refine ⟨by rw [List.length_append, t1.r.length, (hz F1 H1).length]; exact hlen, F1, q, ds ++ dfl, ra, r2, r3, s1.sub, ?_⟩
        have fin : ∀ {F' H' : Hp} {qv r : List Addr} {v : V} {d : D} {fin : List D} {e2 : DEnv}, RO G F' H' qv v d → ROs G F' H' r (lentV mask (vs ++ dvs)) fin → (qv ++ r).Nodup → (∀ a, a ∈ qv ++ r → F' a = none) → (∀ a o, F' a = some o → H' a = some o) → Tr F1 H1 (· ∈ q) F' H' (· ∈ qv ++ r) → bk mask (as ++ dfl.map .t) fin (minus as e1) = some e2 →
            ∃ fp2, SO G F' H' fp2 σ e2 ∧ TO G F' H' fp2 qv v d ∧ Tr F H (own fp) F' H' (fun a => own fp2 a ∨ a ∈ qv) := by
          intro F' H' qv r v d fin e2 h1 h2 h3 h4 h5 h6 h7
          have s2 := s0.frame r5 h6 h5
          have nO : ∀ a, a ∈ qv ++ r → ¬ own fp0 a := fun a z w => by
            rcases h6.ow a z with u | u
            · exact r5 a u w
            · obtain ⟨i, w⟩ := w
              obtain ⟨o, ho⟩ := s0.th i a w
              rw [u] at ho; cases ho
          obtain ⟨n1, n2, n3⟩ := List.nodup_append.mp h3
          obtain ⟨fp2, s3, o3⟩ := give_back rA s2 h2 n2 (fun a z => h4 a (List.mem_append_right _ z)) (fun a z => nO a (List.mem_append_right _ z)) h7
          refine ⟨fp2, s3, ⟨h1, n1, fun a z => h4 a (List.mem_append_left _ z), fun a z w => ?_⟩, (tr1.trans (h6.weak (P := fun a => own fp1 a ∨ a ∈ p) (P1 := fun a => own fp0 a ∨ a ∈ qv ++ r) r7 fun a z => z.elim (fun z => .inr (.inl (r6 a z))) .inl)).drop fun a z => ?_⟩
          · rcases o3 a w with w | w
            · exact nO a (List.mem_append_left _ z) w
            · exact n3 a z a w rfl
          · rcases z with z | z
            · exact (o3 a z).imp id (List.mem_append_right _)
            · exact .inr (List.mem_append_left _ z)
        cases q3 : C (ds ++ dfl) with
        | ok d fn =>
          rw [q3] at h
          simp only at h
          cases q4 : bk mask (as ++ dfl.map .t) fn (minus as e1) with
          | none => rw [q4] at h; exact h.elim
          | some e2 =>
            rw [q4] at h
            intro v F' H' qv r h1 h2 h3 h4 h5 h6
            obtain ⟨fp2, s3, t3, tr3⟩ := fin h1 h2 h3 h4 h5 h6 q4
            exact h v F' H' fp2 qv s3 t3 tr3
        | ex c d fn =>
          rw [q3] at h
          simp only at h
          cases q4 : bk mask (as ++ dfl.map .t) fn (minus as e1) with
          | none => rw [q4] at h; exact h.elim
          | some e2 =>
            rw [q4] at h
            intro dx v F' H' qv r h1 h2 h3 h4 h5 h6 hx
            obtain ⟨fp2, s3, t3, tr3⟩ := fin h1 h2 h3 h4 h5 h6 q4
            exact h dx v F' H' fp2 qv s3 t3 tr3 hx
        | no => rw [q3] at h; exact h.elim
      · exact h.elim
theorem se_call {C : List D → RC} {mask : List Bool} {dfl : List D} {dvs : List V} {ds : List Value} {ms : List Ar} {k : Nat} {f : Addr} {fd : FuncData} {ps : List Str} {x : Str} (tk : Takes X W)
    (FO : FnOk X.prog X.w X.K X.mg X.base (L2.CX X.prog X.w) k f fd ps (Prom (gOf X g) mask C)) (hr : Room k X.A) (hg : Gl X x) (hm : X.mg x = some (.ref f)) (hk : PySem.W.keepIn X.K (.ref f) = true) (hb : Binds X.K fd ps ds) (hd : Vals dvs ds)
    (hz : ∀ F H, ROs (gOf X g) F H [] dvs dfl) (ha : SA X g W (a :: es) ms) (hdb : (x == ("__debug__" : Str)) = false) (he : starEach (a :: es) X.env = (false, eval a X.env) :: starEach es X.env) (hpl : (backTo pos (starEach es X.env)).any (·.1) = false) :
    SE X g W (.Call (.Name x p2) (a :: es) [] pos) (mCall C mask dfl ms) := PE.imp (pe_callSD (E := WE W) FO hr hg hm hk hb hd (passAt tk) ha hdb he hpl) fun σ H Q h => call_plain hz h
theorem se_call0 {C : List D → RC} {mask : List Bool} {dfl : List D} {dvs : List V} {ds : List Value} {k : Nat} {f : Addr} {fd : FuncData} {ps : List Str} {x : Str} (tk : Takes X W)
    (FO : FnOk X.prog X.w X.K X.mg X.base (L2.CX X.prog X.w) k f fd ps (Prom (gOf X g) mask C)) (hr : Room k X.A) (hg : Gl X x) (hm : X.mg x = some (.ref f)) (hk : PySem.W.keepIn X.K (.ref f) = true) (hb : Binds X.K fd ps ds) (hd : Vals dvs ds)
    (hz : ∀ F H, ROs (gOf X g) F H [] dvs dfl) (hdb : (x == ("__debug__" : Str)) = false) :
    SE X g W (.Call (.Name x p2) [] [] pos) (mCall C mask dfl []) := by
  refine ⟨fun pins s σ H Q I h => ?_⟩
  refine wpAny_Call_Name_kw (ld_glob I hg hm ?_ hdb)
  refine PySem.W.callWith_K0 I.kIn hk (run_fnSD (us := []) (vs := []) (E := WE W) FO hr hb hd (passAt tk σ) I .nil ?_)
  obtain ⟨F, fp, e, s, h⟩ := call_plain (dvs := dvs) hz h
  exact h [] F H fp [] s ⟨.nil, List.nodup_nil, fun _ z => (nomatch z), fun _ z => (nomatch z)⟩ Tr.refl.nil
end
end EV

/-! EvM: what a def computes, its promise. -/
namespace EV
open PySem PySem.Spec PyProof.Rows L2

def fins : List Bool → DEnv → Option (List D)
  | true :: m, some d :: e => (fins m e).map (d :: ·)
  | true :: _, _ => none
  | false :: m, _ :: e => fins m e
  | false :: m, [] => fins m []
  | [], _ => some []
/-- the places of true -/
def lix : Nat → List Bool → List Nat
  | k, true :: m => k :: lix (k + 1) m
  | k, false :: m => lix (k + 1) m
  | _, [] => []
/-- a def as a plain function: n slots -/
def callF (n : Nat) (mask : List Bool) (m : MS) (ds : List D) : RC :=
  if ds.length = mask.length ∧ mask.length ≤ n then
    match m (ds.map some ++ List.replicate (n - mask.length) none) with
    | .nx e => match fins mask e with
      | some f => .ok .non f
      | none => .no
    | .rt d e => match fins mask e with
      | some f => .ok d f
      | none => .no
    | .ex c d e => match fins mask e with
      | some f => .ex c d f
      | none => .no
    | _ => .no
  else .no
section
variable {X : Cx} {N : List Str} {sc : Scope} {fr : List Str} {g : GF} {G : GI} {W : WX} {L : List Nat} {F H F1 H1 F' H' : Hp} {fp fp1 fp' : Nat → List Addr} {σ σ1 : L2.St} {e e' : DEnv}
theorem ROs.split : ∀ {p : List Addr} {vs : List V} {ds : List D}, ROs G F H p vs ds → ∃ ps : List (List Addr), ps.flatten = p ∧ ∀ (i : Nat) (d : D), ds[i]? = some d → ∃ (v : V) (f : List Addr), vs[i]? = some v ∧ ps[i]? = some f ∧ RO G F H f v d
  | _, _, _, .nil => ⟨[], rfl, fun i d h => by cases h⟩
  | _, _, _, .cons (f := f) r rs => by
    obtain ⟨ps, e, h⟩ := ROs.split rs
    refine ⟨f :: ps, by rw [List.flatten_cons, e], fun i d hi => ?_⟩
    cases i with
    | zero => injection hi with hi; subst hi; exact ⟨_, f, rfl, rfl, r⟩
    | succ i => exact h i d hi
theorem nth_nodup : ∀ {ps : List (List Addr)}, ps.flatten.Nodup → (∀ (i : Nat) (f : List Addr), ps[i]? = some f → f.Nodup) ∧ ∀ (i j : Nat) (f f' : List Addr) (a : Addr), ps[i]? = some f → ps[j]? = some f' → a ∈ f → a ∈ f' → i = j
  | [], _ => ⟨(fun i f h => by cases h), (fun i j f f' a h => by cases h)⟩
  | p :: ps, h => by
    rw [List.flatten_cons] at h
    obtain ⟨n1, n2, n3⟩ := List.nodup_append.mp h
    obtain ⟨h1, h2⟩ := nth_nodup n2
    have mem : ∀ j f a, ps[j]? = some f → a ∈ f → a ∈ ps.flatten := fun j f a hj ha => List.mem_flatten.mpr ⟨f, List.mem_of_getElem? hj, ha⟩
    refine ⟨fun i f hi => ?_, fun i j f f' a hi hj ha hb => ?_⟩
    · cases i with
      | zero => injection hi with hi; subst hi; exact n1
      | succ i => exact h1 i f hi
    · cases i with
      | zero =>
        cases j with
        | zero => rfl
        | succ j =>
          injection hi with hi; subst hi
          exact absurd rfl (n3 a ha a (mem j f' a hj hb))
      | succ i =>
        cases j with
        | zero =>
          injection hj with hj; subst hj
          exact absurd rfl (n3 a hb a (mem i f a hi ha))
        | succ j => rw [h2 i j f f' a hi hj ha hb]
theorem start_SO {p : List Addr} {vs : List V} {ds : List D} (n : Nat) (hn : ds.length ≤ N.length) (hs : ∀ a o, F a = some o → H a = some o) (r : ROs G F H p vs ds) (nd : p.Nodup) (sep : ∀ a, a ∈ p → F a = none) :
    ∃ fp, SO G F H fp (L2.start N vs) (ds.map some ++ List.replicate (N.length - ds.length) none) ∧ ∀ a, own fp a → a ∈ p := by
  obtain ⟨ps, ep, h⟩ := r.split
  subst ep
  obtain ⟨n1, n2⟩ := nth_nodup nd
  have gd : ∀ i a, a ∈ ps.getD i [] → ∃ f, ps[i]? = some f ∧ a ∈ f := fun i a z => by
    rw [List.getD_eq_getElem?_getD] at z
    cases q : ps[i]? with
    | none => rw [q] at z; cases z
    | some f => rw [q] at z; exact ⟨f, rfl, z⟩
  have mem : ∀ i a, a ∈ ps.getD i [] → a ∈ ps.flatten := fun i a z => by
    obtain ⟨f, hf, ha⟩ := gd i a z
    exact List.mem_flatten.mpr ⟨f, List.mem_of_getElem? hf, ha⟩
  refine ⟨fun i => ps.getD i [], ⟨hs, fun i d hi => ?_, fun i => ?_, fun i j a hi hj => ?_, fun i a z => sep a (mem i a z), fun i a z => r.there a (mem i a z), ?_⟩, fun a ⟨i, z⟩ => mem i a z⟩
  · by_cases hl : i < ds.length
    · rw [List.getElem?_append_left (by simpa using hl), List.getElem?_map] at hi
      cases q : ds[i]? with
      | none => rw [q] at hi; cases hi
      | some d' =>
        rw [q] at hi
        injection hi with hi; injection hi with hi; subst hi
        obtain ⟨v, f, h1, h2, h3⟩ := h i d' q
        refine ⟨v, ?_, ?_⟩
        · unfold L2.start
          have hv : i < vs.length := (List.getElem?_eq_some_iff.mp h1).1
          rw [List.getElem?_append_left (by simpa using hv), List.getElem?_map, h1]
          rfl
        · rw [List.getD_eq_getElem?_getD, h2]; exact h3
    · rw [List.getElem?_append_right (by simpa using hl)] at hi
      have := List.mem_of_getElem? hi
      have := List.eq_of_mem_replicate this
      cases this
  · show (ps.getD i []).Nodup
    rw [List.getD_eq_getElem?_getD]
    cases q : ps[i]? with
    | none => exact List.nodup_nil
    | some f => exact n1 i f q
  · obtain ⟨f, h1, h2⟩ := gd i a hi
    obtain ⟨f', h3, h4⟩ := gd j a hj
    exact n2 i j f f' a h1 h3 h2 h4
  · unfold L2.start
    rw [List.length_append, List.length_append, List.length_map, List.length_map, List.length_replicate, List.length_replicate, r.length]
theorem end_fin : ∀ (mask : List Bool) (k : Nat) (vs : List V) (e : DEnv) (fin : List D), vs.length = mask.length → (∀ i d, e[i]? = some (some d) → ∃ v, σ[k + i]? = some (some v) ∧ RO G F H (fp (k + i)) v d) → (∀ i, (fp i).Nodup) → (∀ i j a, a ∈ fp i → a ∈ fp j → i = j) →
    (∀ i, mask[i]? = some true → ∃ v, vs[i]? = some v ∧ σ[k + i]? = some (some v)) → fins mask e = some fin →
    ∃ r, ROs G F H r (lentV mask vs) fin ∧ r.Nodup ∧ ∀ a, a ∈ r → ∃ i, k ≤ i ∧ a ∈ fp i
  | [], k, vs, e, fin, hl, hr, hn, hd, hv, h => by
    cases vs with
    | cons _ _ => cases hl
    | nil =>
      have h : some ([] : List D) = some fin := by
        cases e <;> exact h
      injection h with h; subst h
      exact ⟨[], .nil, List.nodup_nil, fun _ z => (nomatch z)⟩
  | false :: m, k, vs, e, fin, hl, hr, hn, hd, hv, h => by
    cases vs with
    | nil => cases hl
    | cons v vs =>
      have h : fins m e.tail = some fin := by
        cases e <;> exact h
      obtain ⟨r, h1, h2, h3⟩ := end_fin m (k + 1) vs e.tail fin (by simpa using hl) (fun i d hi => by
        have := hr (i + 1) d (by cases e with
          | nil => cases hi
          | cons x e => exact hi)
        rw [show k + 1 + i = k + (i + 1) from by omega]; exact this) hn hd (fun i hi => by
        have := hv (i + 1) hi
        rw [show k + 1 + i = k + (i + 1) from by omega]; exact this) h
      exact ⟨r, h1, h2, fun a z => by obtain ⟨i, q1, q2⟩ := h3 a z; exact ⟨i, by omega, q2⟩⟩
  | true :: m, k, vs, e, fin, hl, hr, hn, hd, hv, h => by
    cases vs with
    | nil => cases hl
    | cons v vs =>
      cases e with
      | nil => cases h
      | cons x e =>
        cases x with
        | none => cases h
        | some d =>
          have h : (fins m e).map (d :: ·) = some fin := h
          cases q : fins m e with
          | none => rw [q] at h; cases h
          | some fn =>
            rw [q] at h
            injection h with h; subst h
            obtain ⟨r, h1, h2, h3⟩ := end_fin m (k + 1) vs e fn (by simpa using hl) (fun i d hi => by
              have := hr (i + 1) d hi
              rw [show k + 1 + i = k + (i + 1) from by omega]; exact this) hn hd (fun i hi => by
              have := hv (i + 1) hi
              rw [show k + 1 + i = k + (i + 1) from by omega]; exact this) q
            obtain ⟨w, hw, rw'⟩ := hr 0 d rfl
            obtain ⟨v1, hv1, hv2⟩ := hv 0 rfl
            injection hv1 with hv1; subst hv1
            rw [hw] at hv2
            cases hv2
            refine ⟨fp (k + 0) ++ r, .cons rw' h1, List.nodup_append.mpr ⟨hn _, h2, fun x hx y hy z => ?_⟩, fun a z => ?_⟩
            · subst z
              obtain ⟨i, q1, q2⟩ := h3 x hy
              have := hd _ _ x hx q2
              omega
            · rcases List.mem_append.mp z with z | z
              · exact ⟨k + 0, by omega, z⟩
              · obtain ⟨i, q1, q2⟩ := h3 a z
                exact ⟨i, by omega, q2⟩
theorem lix_mem : ∀ (mask : List Bool) (k i : Nat), mask[i]? = some true → (k + i) ∈ lix k mask
  | [], k, i, h => by cases h
  | b :: m, k, i, h => by
    cases i with
    | zero =>
      injection h with h; subst h
      exact List.mem_cons_self ..
    | succ i =>
      have := lix_mem m (k + 1) i h
      rw [show k + 1 + i = k + (i + 1) from by omega] at this
      cases b
      · exact this
      · exact List.mem_cons_of_mem _ this
/-- the body's ends are the promise's -/
theorem body_plain {mask : List Bool} {m : MS} {E : XK} {Q : VK} {vs : List V} (hm : mask.length ≤ N.length) (h : Prom G mask (callF N.length mask m) vs H Q E) :
    RdS G (fun cls d _ H => E cls d H) (lix 0 mask) m { nx := fun _ H' => Q .non H', rt := Q } (L2.start N vs) H := by
  obtain ⟨hl, F, p, ds, r, nd, sep, hs, h⟩ := h
  unfold callF at h
  by_cases hh : ds.length = mask.length ∧ mask.length ≤ N.length
  · rw [if_pos hh] at h
    obtain ⟨h1, h2⟩ := hh
    obtain ⟨fp, s, ho⟩ := start_SO (N := N) 0 (by omega) hs r nd sep
    rw [h1] at s
    refine ⟨F, fp, _, s, ?_⟩
    have st : ∀ i v, vs[i]? = some v → (L2.start N vs)[i]? = some (some v) := fun i v hv => by
      unfold L2.start
      have hv' : i < vs.length := (List.getElem?_eq_some_iff.mp hv).1
      rw [List.getElem?_append_left (by simpa using hv'), List.getElem?_map, hv]
      rfl
    have lent : ∀ {σ' : L2.St} {F' H' : Hp} {fp' : Nat → List Addr} {e' : DEnv} {fin : List D}, SO G F' H' fp' σ' e' → (∀ i, i ∈ lix 0 mask → σ'[i]? = (L2.start N vs)[i]?) → fins mask e' = some fin → ∃ r, ROs G F' H' r (lentV mask vs) fin ∧ r.Nodup ∧ ∀ a, a ∈ r → own fp' a := fun s' l' hf => by
      obtain ⟨r, q1, q2, q3⟩ := end_fin mask 0 vs _ _ hl (fun i d hi => by rw [Nat.zero_add]; exact s'.rep i d hi) s'.nd s'.dj (fun i hi => by
        have hi' : i < vs.length := by rw [hl]; exact (List.getElem?_eq_some_iff.mp hi).1
        have z := lix_mem mask 0 i hi
        rw [Nat.zero_add] at z ⊢
        exact ⟨vs[i], List.getElem?_eq_getElem hi', by rw [l' i z]; exact st i _ (List.getElem?_eq_getElem hi')⟩) hf
      exact ⟨r, q1, q2, fun a z => by obtain ⟨i, _, q⟩ := q3 a z; exact ⟨i, q⟩⟩
    have all : ∀ {σ' : L2.St} {F' H' : Hp} {fp' : Nat → List Addr} {e' : DEnv} {q r : List Addr} {v : V} {d : D}, SO G F' H' fp' σ' e' → TO G F' H' fp' q v d → r.Nodup → (∀ a, a ∈ r → own fp' a) → Tr F H (own fp) F' H' (fun a => own fp' a ∨ a ∈ q) →
        (q ++ r).Nodup ∧ (∀ a, a ∈ q ++ r → F' a = none) ∧ Tr F H (· ∈ p) F' H' (· ∈ q ++ r) := fun s' t' n' o' tr => by
      refine ⟨List.nodup_append.mpr ⟨t'.nd, n', fun x hx y hy z => t'.dj x hx (o' x (z ▸ hy))⟩, fun a z => (List.mem_append.mp z).elim (t'.sep a) fun z => by obtain ⟨i, w⟩ := o' a z; exact s'.sep i a w, ?_⟩
      exact tr.weak ho fun c z => (List.mem_append.mp z).elim (fun z => .inl (.inr z)) fun z => .inl (.inl (o' c z))
    cases q1 : m (ds.map some ++ List.replicate (N.length - mask.length) none) with
    | nx e' =>
      rw [q1] at h
      simp only at h
      intro σ' F' H' fp' s' l' tr
      cases q2 : fins mask e' with
      | none => rw [q2] at h; exact h.elim
      | some fin =>
        rw [q2] at h
        obtain ⟨r, r1, r2, r3⟩ := lent s' l' q2
        obtain ⟨a1, a2, a3⟩ := all s' (TO.z .non) r2 r3 tr.nil
        exact h .non F' H' [] r .non r1 a1 a2 s'.sub a3
    | rt d e' =>
      rw [q1] at h
      simp only at h
      intro v σ' F' H' fp' pv s' l' t' tr
      cases q2 : fins mask e' with
      | none => rw [q2] at h; exact h.elim
      | some fin =>
        rw [q2] at h
        obtain ⟨r, r1, r2, r3⟩ := lent s' l' q2
        obtain ⟨a1, a2, a3⟩ := all s' t' r2 r3 tr
        exact h v F' H' pv r t'.r r1 a1 a2 s'.sub a3
    | ex c d e' =>
      rw [q1] at h
      simp only at h
      intro dx v σ' F' H' fp' pv s' l' t' tr hx
      cases q2 : fins mask e' with
      | none => rw [q2] at h; exact h.elim
      | some fin =>
        rw [q2] at h
        obtain ⟨r, r1, r2, r3⟩ := lent s' l' q2
        obtain ⟨a1, a2, a3⟩ := all s' t' r2 r3 tr
        exact h dx v F' H' pv r t'.r r1 a1 a2 s'.sub a3 hx
    | bk e' => rw [q1] at h; exact h.elim
    | ct e' => rw [q1] at h; exact h.elim
    | no => rw [q1] at h; exact h.elim
  · rw [if_neg hh] at h; exact h.elim
end
end EV

/-! EvN: built-ins by name; contexts; the promise of a def from its body. -/
namespace EV
open PySem PySem.Spec PyProof.Rows L2
section
variable {X : Cx} {N : List Str} {sc : Scope} {fr : List Str} {g : GF} {G : GI} {W : WX} {L : List Nat} {a b c : Expr} {es : List Expr} {pos p2 p3 p4 : Pos} {oa ob : Op} {m n t : ME}
theorem se_len (C : Cn X N sc fr) (h1 : ("len" : Str) ∈ fr) (h2 : glB sc "len" = true) (ha : SOp X g W a oa) (hs : starEach [a] X.env = (false, eval a X.env) :: starEach [] X.env) : SE X g W (.Call (.Name "len" p2) [a] [] pos) (mOp1 lenD oa) :=
  se_b1 C (id := "len") (r := fun xs H Q => ∃ x n, xs = [x] ∧ LenV X.K x H n ∧ Q (.int n) H) call_len (by decide +kernel) (by decide) (by decide) (fun F H x d1 d Q s r1 h k => by
    obtain ⟨n, h1, h2⟩ := hr_len s r1 h k
    exact ⟨x, n, rfl, h1, h2⟩) h1 h2 ha hs
theorem se_abs (C : Cn X N sc fr) (h1 : ("abs" : Str) ∈ fr) (h2 : glB sc "abs" = true) (ha : SOp X g W a oa) (hs : starEach [a] X.env = (false, eval a X.env) :: starEach [] X.env) : SE X g W (.Call (.Name "abs" p2) [a] [] pos) (mOp1 absD oa) :=
  se_b1 C (id := "abs") call_abs (by decide +kernel) (by decide) (by decide) (fun F H x d1 d Q s r1 h k => hr_abs s r1 h k) h1 h2 ha hs
theorem se_int1 (C : Cn X N sc fr) (h1 : ("int" : Str) ∈ fr) (h2 : glB sc "int" = true) (ha : SOp X g W a oa) (hs : starEach [a] X.env = (false, eval a X.env) :: starEach [] X.env) : SE X g W (.Call (.Name "int" p2) [a] [] pos) (mOp1 intD oa) :=
  se_t1 C (id := "int") call_int1 (by decide +kernel) (by decide) (by decide) (fun F H x d1 d Q s r1 h k => hr_int s r1 h k) h1 h2 ha hs
theorem se_tuple (C : Cn X N sc fr) (h1 : ("tuple" : Str) ∈ fr) (h2 : glB sc "tuple" = true) (ha : SOp X g W a oa) (hs : starEach [a] X.env = (false, eval a X.env) :: starEach [] X.env) : SE X g W (.Call (.Name "tuple" p2) [a] [] pos) (mOp1 tupleD oa) :=
  se_t1 C (id := "tuple") call_tuple_of (by decide +kernel) (by decide) (by decide) (fun F H x d1 d Q s r1 h k => hr_tuple s r1 h k) h1 h2 ha hs
theorem se_list (C : Cn X N sc fr) (h1 : ("list" : Str) ∈ fr) (h2 : glB sc "list" = true) (ha : SOp X g W a oa) (hs : starEach [a] X.env = (false, eval a X.env) :: starEach [] X.env) : SE X g W (.Call (.Name "list" p2) [a] [] pos) (mOp1 listD oa) :=
  se_t1 C (id := "list") call_list_of (by decide +kernel) (by decide) (by decide) (fun F H x d1 d Q s r1 h k => hr_list s r1 h k) h1 h2 ha hs
theorem se_sum (C : Cn X N sc fr) (h1 : ("sum" : Str) ∈ fr) (h2 : glB sc "sum" = true) (ha : SOp X g W a oa) (hs : starEach [a] X.env = (false, eval a X.env) :: starEach [] X.env) : SE X g W (.Call (.Name "sum" p2) [a] [] pos) (mOp1 sumD oa) :=
  se_b1 C (id := "sum") (cr_sum C.calm) (by decide +kernel) (by decide) (by decide) (fun F H x d1 d Q s r1 h k => hr_sum s r1 h k) h1 h2 ha hs
theorem se_max1 (C : Cn X N sc fr) (h1 : ("max" : Str) ∈ fr) (h2 : glB sc "max" = true) (ha : SOp X g W a oa) (hs : starEach [a] X.env = (false, eval a X.env) :: starEach [] X.env) : SE X g W (.Call (.Name "max" p2) [a] [] pos) (mOp1 max1D oa) :=
  se_b1 C (id := "max") (cr_max C.calm) (by decide +kernel) (by decide) (by decide) (fun F H x d1 d Q s r1 h k => hr_max1 s r1 h k) h1 h2 ha hs
theorem se_min1 (C : Cn X N sc fr) (h1 : ("min" : Str) ∈ fr) (h2 : glB sc "min" = true) (ha : SOp X g W a oa) (hs : starEach [a] X.env = (false, eval a X.env) :: starEach [] X.env) : SE X g W (.Call (.Name "min" p2) [a] [] pos) (mOp1 min1D oa) :=
  se_b1 C (id := "min") (cr_min C.calm) (by decide +kernel) (by decide) (by decide) (fun F H x d1 d Q s r1 h k => hr_min1 s r1 h k) h1 h2 ha hs
theorem se_all (C : Cn X N sc fr) (h1 : ("all" : Str) ∈ fr) (h2 : glB sc "all" = true) (ha : SOp X g W a oa) (hs : starEach [a] X.env = (false, eval a X.env) :: starEach [] X.env) : SE X g W (.Call (.Name "all" p2) [a] [] pos) (mOp1 allD oa) :=
  se_b1 C (id := "all") (cr_all C.calm) (by decide +kernel) (by decide) (by decide) (fun F H x d1 d Q s r1 h k => hr_all s r1 h k) h1 h2 ha hs
theorem se_any (C : Cn X N sc fr) (h1 : ("any" : Str) ∈ fr) (h2 : glB sc "any" = true) (ha : SOp X g W a oa) (hs : starEach [a] X.env = (false, eval a X.env) :: starEach [] X.env) : SE X g W (.Call (.Name "any" p2) [a] [] pos) (mOp1 anyD oa) :=
  se_b1 C (id := "any") (cr_any C.calm) (by decide +kernel) (by decide) (by decide) (fun F H x d1 d Q s r1 h k => hr_any s r1 h k) h1 h2 ha hs
theorem se_max2 (C : Cn X N sc fr) (h1 : ("max" : Str) ∈ fr) (h2 : glB sc "max" = true) (ha : SOp X g W a oa) (hb : SOp X g W b ob) (hs : starEach [a, b] X.env = (false, eval a X.env) :: starEach [b] X.env) (hs2 : starEach [b] X.env = (false, eval b X.env) :: starEach [] X.env) (hpl : (backTo pos (starEach [b] X.env)).any (·.1) = false) :
    SE X g W (.Call (.Name "max" p2) [a, b] [] pos) (mOp2 max2D oa ob) :=
  se_b2 C (id := "max") (call_max2 C.calm) (by decide +kernel) (by decide) (by decide) (fun F H x y d1 d2 d Q s r1 r2 h k => hr_max2 s r1 r2 h k) h1 h2 ha hb hs hs2 hpl
theorem se_min2 (C : Cn X N sc fr) (h1 : ("min" : Str) ∈ fr) (h2 : glB sc "min" = true) (ha : SOp X g W a oa) (hb : SOp X g W b ob) (hs : starEach [a, b] X.env = (false, eval a X.env) :: starEach [b] X.env) (hs2 : starEach [b] X.env = (false, eval b X.env) :: starEach [] X.env) (hpl : (backTo pos (starEach [b] X.env)).any (·.1) = false) :
    SE X g W (.Call (.Name "min" p2) [a, b] [] pos) (mOp2 min2D oa ob) :=
  se_b2 C (id := "min") (call_min2 C.calm) (by decide +kernel) (by decide) (by decide) (fun F H x y d1 d2 d Q s r1 r2 h k => hr_min2 s r1 r2 h k) h1 h2 ha hb hs hs2 hpl
/-- the block of a comprehension -/
theorem Cn.blk (C : Cn X N sc fr) {scope : Scope} (s : Shared) (H : Hp) (A : Addr) (cl : List (Str × Addr)) (fp : List Addr) : Cn (X.blk s H scope (compEnvC scope cl A X.env) fp) N (relS scope sc) fr where
  hN := C.hN
  nd := C.nd
  hsc := by
    show relS scope X.env.scope = _
    rw [C.hsc]
  calm := C.calm
  hu := C.hu
  hfr := C.hfr
theorem takes0 : Takes X W0 := fun u s' x => by
  obtain ⟨a, B, sI, pins, σ, H, cls, d, _, _, _, _, _, _, _, _, w⟩ := x
  exact w.elim
end
section
variable {P : Program} {w : World} {K : PySem.W.Frag} {mg : Str → Option Value} {base : Heap} {x qual : Str} {params : Arguments} {body : List Stmt} {scope : Scope} {dvs : List V} {kws : List (Str × V)} {f : Addr} {fd : FuncData}
theorem fn_ok {N ps fr : List Str} {mask : List Bool} {k : Nat} {m : MS} {g : GF} (Fd : FunD K x qual params body scope dvs kws f fd) (S : FnScope N ps scope) (hm : mask.length = ps.length) (hn : mask.length ≤ N.length) (hfr : ∀ x ∈ fr, mg x = none)
    (hb : ∀ (cdv : Value) (A : Around) (outer : List Env) (s : Shared) (H : Hp) (E : XK), Room k (cxOf (L2.CX P w) P w K mg base N qual scope f cdv A outer s H E).A → Cn (cxOf (L2.CX P w) P w K mg base N qual scope f cdv A outer s H E) N scope fr →
      Takes (cxOf (L2.CX P w) P w K mg base N qual scope f cdv A outer s H E) (fun cls d _ H => E cls d H) → PassesOwn (model P w) (cxOf (L2.CX P w) P w K mg base N qual scope f cdv A outer s H E).A (cxOf (L2.CX P w) P w K mg base N qual scope f cdv A outer s H E).env (cxOf (L2.CX P w) P w K mg base N qual scope f cdv A outer s H E).xe →
      SSs (cxOf (L2.CX P w) P w K mg base N qual scope f cdv A outer s H E) g (fun cls d _ H => E cls d H) (lix 0 mask) body m) :
    FnOk P w K mg base (L2.CX P w) (k + 1) f fd ps (Prom ⟨g, K⟩ mask (callF N.length mask m)) :=
  Fd.ok S (Prom.len hm) fun cdv A outer s H vs Q E room sp =>
    ⟨_, hb cdv A outer s H E room ⟨rfl, S.nd, rfl, rfl, by have := room.un; show (A.deeper _).units + 200 < cLine; omega, hfr⟩ (takes_of rfl rfl rfl rfl) (passes_of rfl), body_plain hn sp⟩
end
end EV

/-! EvO: displays of dicts, zip, index, items of items. -/
namespace EV
open PySem PySem.Spec PyProof.Rows L2
section
variable {X : Cx} {N : List Str} {sc : Scope} {fr : List Str} {g : GF} {G : GI} {W : WX} {L : List Nat} {a b c : Expr} {es : List Expr} {pos p2 p3 p4 p5 : Pos} {oa ob : Op} {m n t : ME} {F H F1 H1 F' H' : Hp} {fp fp1 fp' : Nat → List Addr} {σ σ1 : L2.St} {e e' : DEnv}
/-! ### {}, {key: value} -/
def mDnew (d : D) : ME := fun e => .ok d e
theorem se_dnewK : SE X g W (.Dict [] [] pos) (mDnew (.dk true [])) := PE.imp pe_dnewK fun σ H Q ⟨F, fp, e, s, h⟩ => fun p hp => by
  refine h (.ref p) F _ fp [p] (s.new hp) ⟨.dko upd_same rfl .nil, by simp, fun c z => ?_, fun c z => ?_⟩ ((Tr.new hp).drop fun c z => z.imp id fun z => List.mem_singleton.mp z)
  · rw [List.mem_singleton.mp z]; exact s.fnone hp
  · rw [List.mem_singleton.mp z]; exact s.noown hp
theorem se_dnewT : SE X g W (.Dict [] [] pos) (mDnew (.dt true [])) := PE.imp pe_dnewT fun σ H Q ⟨F, fp, e, s, h⟩ => fun p hp => by
  refine h (.ref p) F _ fp [p] (s.new hp) ⟨.dto upd_same rfl .nil, by simp, fun c z => ?_, fun c z => ?_⟩ ((Tr.new hp).drop fun c z => z.imp id fun z => List.mem_singleton.mp z)
  · rw [List.mem_singleton.mp z]; exact s.fnone hp
  · rw [List.mem_singleton.mp z]; exact s.noown hp
def tDisp1T (tk tv : TE) : TE := fun σ H Q => ∀ p, H p = none → tk σ (upd H p (.dT [])) fun x H1 => tv σ H1 fun y H2 => H2 p = some (.dT []) ∧ ∃ ks b, x = .ref b ∧ H2 b = some (.tup (ks.map kV)) ∧ Q (.ref p) (upd H2 p (.dT [(ks, y)]))
theorem pe_disp1T {k v : Expr} {tk tv : TE} (hu : X.A.units + 1 < cLine) (hk : PE X k tk) (hv : PE X v tv) : PE X (.Dict [some k] [v] pos) (tDisp1T tk tv) := by
  refine ⟨fun pins s σ H Q I q => ?_⟩
  have hn := I.hok.fresh (Nat.le_refl s.heap.objs.size)
  have I1 := I.laid (a := s.heap.objs.size) (o := .dT []) (h' := s.heap.push { cls := .type "dict", data := .dict #[] }) (t' := s.toks) (fun _ _ q => Heap.get?_push_of_some _ q) (Nat.le_refl _) (dt_empty s.heap I.big)
  rw [arm_eval_Dict, zip_pairTrees [some k] [v] X.env pos rfl rfl, dictDisplay_pairs _ (by simp [pairTrees]) (by simp [pairTrees])]
  refine wpAny_bind (wpAny_standAt (wpAny_bind ?_))
  unfold subDict
  refine wpAny_bind (wpAny_alloc ?_)
  refine wpAny_bind (wpAny_holding ?_)
  rw [if_pos (by simp [pairTrees])]
  refine wpAny_bind (evalPairs_cons (thn (hk.run pins _ σ _ _ I1 (q _ hn)) fun u s1 ⟨x, H1, I2, rx, q1⟩ => ?_))
  refine wpAny_bind (thn (hv.run pins _ σ _ _ I2 q1) fun r s2 ⟨y, H2, I3, ry, e2, ks, bb, ex, eb, q2⟩ => ?_)
  subst ex
  cases (show u = Value.ref bb from rx)
  refine wpAny_bind (wpAny_standAt (wpAny_pure (evalPairs_nil ?_)))
  refine wpAny_holding ?_
  rw [List.forIn_cons]
  obtain ⟨z, hd, xs, rel, dd⟩ := dt_of I3.hok e2
  cases rel
  refine wpAny_bind (wpAny_bind (wpAny_bind (wpAny_dictSet_heap (hsz := by simp) (show (tupleKind (mixKind X.prog X.w)).room X.A from Nat.lt_of_succ_lt hu) (key_of I3.hok eb) dd fun h' dd' hs => wpAny_pure ?_)))
  dsimp only
  rw [List.forIn_nil]
  refine wpAny_pure (wpAny_pure (wpAny_pure (wpAny_pure ?_)))
  obtain ⟨o, es, ep, hq, h2, h3, h4, _, h5⟩ := dd'
  refine ⟨.ref s.heap.objs.size, _, d_write (ob := .dT [(ks, y)]) I3 (by rw [e2]; exact True.intro) hs ⟨o, hq⟩ ⟨?_, hd, _, (KT.put .nil ks eb ry).keeps fun c ys ec => ?_, o, es, ep, hq, h2, h3, h4, h5⟩, rfl, q2⟩
  · show 1 ≤ sizeLine
    decide
  · rw [upd_ne (ne_of ec e2 (fun z => nomatch z))]
    exact ec
def mDisp1T (mk mv : ME) : ME := fun e => match mk e with
  | .ok dk e1 => match frz dk with
    | .tup ks => match keysD ks with
      | some key => match mv e1 with
        | .ok dv e2 => .ok (.dt true [(key, frz dv)]) e2
        | .ex c d e2 => .ex c d e2
        | .no => .no
      | none => .no
    | _ => .no
  | .ex c d e1 => .ex c d e1
  | .no => .no
theorem se_disp1T (C : Cn X N sc fr) (ha : SE X g W a m) (hb : SE X g W b n) : SE X g W (.Dict [some a] [b] pos) (mDisp1T m n) := PE.imp (pe_disp1T C.hu1 ha.z hb.z) fun σ H Q h => by
  obtain ⟨F, fp, e, s, h⟩ := RdE.iff.mp h
  intro p hp
  have s0 := s.new (o := .dT []) hp
  refine ⟨F, fp, e, s0, ?_⟩
  unfold mDisp1T at h
  have tr0 : Tr F H (own fp) F (upd H p (.dT [])) (fun c => own fp c ∨ c ∈ [p]) := (Tr.new hp).drop fun c z => z.imp id fun z => List.mem_singleton.mp z
  have t0 : TO (gOf X g) F (upd H p (.dT [])) fp [p] (.ref p) (.dt true []) := ⟨.dto upd_same rfl .nil, by simp, fun c z => by rw [List.mem_singleton.mp z]; exact s.fnone hp, fun c z => by rw [List.mem_singleton.mp z]; exact s.noown hp⟩
  cases q : m e with
  | ex c d e1 =>
    rw [q] at h
    intro dx v F1 H1 fp1 p1 s1 t1 tr1 hx
    exact h dx v F1 H1 fp1 p1 s1 t1 ((tr0.trans (tr1.weak (P := fun c => own fp c ∨ c ∈ [p]) (P1 := fun c => own fp1 c ∨ c ∈ p1) (fun _ z => .inl z) fun c z => .inl z))) hx
  | no => rw [q] at h; exact h
  | ok dk e1 =>
    rw [q] at h
    intro v F1 H1 fp1 s1 r1 tr1
    simp only at h
    generalize frz dk = dz at h r1
    cases dz with
    | tup ks =>
      simp only at h
      obtain ⟨bb, vs, rfl, hb1, rb⟩ := r1.tup_inv
      cases q1 : keysD ks with
      | none => rw [q1] at h; exact h.elim
      | some key =>
        rw [q1] at h
        simp only at h
        have t1 := t0.keep tr1 fun _ z => z
        refine ⟨F1, fp1, e1, s1, ?_⟩
        have tr01 : Tr F H (own fp) F1 H1 (fun c => own fp1 c ∨ c ∈ [p]) := tr0.trans tr1.hold0
        cases q2 : n e1 with
        | ex c d e2 =>
          rw [q2] at h
          intro dx v F2 H2 fp2 p2 s2 t2 tr2 hx
          exact h dx v F2 H2 fp2 p2 s2 t2 (tr01.trans (tr2.weak (P := fun c => own fp1 c ∨ c ∈ [p]) (P1 := fun c => own fp2 c ∨ c ∈ p2) (fun _ z => .inl z) fun c z => .inl z)) hx
        | no => rw [q2] at h; exact h
        | ok dv e2 =>
          rw [q2] at h
          intro y F2 H2 fp2 s2 r2 tr2
          have t2 := t1.keep tr2 fun _ z => z
          obtain ⟨a0, kvs, ea, _, hk, hk2, _⟩ := t2.r.dto_inv
          cases ea
          have ek : kvs = [] := List.map_eq_nil_iff.mp hk2
          subst ek
          have hb2 : H2 bb = some (.tup (key.map kV)) := by
            rw [← keysD_rep rb q1]; exact s2.sub _ _ (tr2.ff _ _ hb1)
          refine ⟨hk, key, bb, rfl, hb2, ?_⟩
          have pnF : F2 p = none := t2.sep p (List.mem_singleton.mpr rfl)
          have pnO : ¬ own fp2 p := t2.dj p (List.mem_singleton.mpr rfl)
          have hH : ∀ b o, b ≠ p → H2 b = some o → upd H2 p (.dT [(key, y)]) b = some o := fun b o z w => by rw [upd_ne z]; exact w
          have s3 : SO (gOf X g) F2 (upd H2 p (.dT [(key, y)])) fp2 σ e2 := s2.frame (p := [p]) (O' := fun c => c ∈ [p]) (fun c z w => pnO (by rwa [List.mem_singleton.mp z] at w)) ⟨fun _ _ z => z, fun b o n z => hH b o (fun u => n (List.mem_singleton.mpr u)) z, fun _ z => .inl z, fun _ _ z => .inl z⟩ fun b o z => hH b o (fun u => by rw [u, pnF] at z; cases z) (s2.sub b o z)
          refine h (.ref p) F2 _ fp2 [p] s3 ⟨.dto upd_same rfl (ROs.consZ (r2.mono (fun _ _ z => z) fun a z => nomatch z) .nil), by simp, fun c z => ?_, fun c z => ?_⟩ ?_
          · rw [List.mem_singleton.mp z]; exact pnF
          · rw [List.mem_singleton.mp z]; exact pnO
          · refine (tr01.trans tr2.hold0).trans ⟨fun _ _ z => z, fun b o n z => hH b o (fun u => n (.inr (List.mem_singleton.mpr u))) z, fun _ z => .inl z, fun _ _ z => .inl z⟩
    | _ => exact h.elim
/-! ### zip of two -/
def zipD : D → D → Option (List D)
  | .tup xs, .tup ys => some (List.zipWith (fun x y => .tup [x, y]) xs ys)
  | .lst _ xs, .lst _ ys => some (List.zipWith (fun x y => .tup [x, y]) xs ys)
  | _, _ => none
def mZip2 (m n : ME) : MI := fun e => match m e with
  | .ok d1 e1 => match n e1 with
    | .ok d2 e2 => match zipD (frz d1) (frz d2) with
      | some ds => .ok ds none e2
      | none => .no
    | .ex c d e2 => .ex c d e2
    | .no => .no
  | .ex c d e1 => .ex c d e1
  | .no => .no
theorem zipW_get {xs ys : List D} {k : Nat} {d : D} (h : (List.zipWith (fun x y => D.tup [x, y]) xs ys)[k]? = some d) : ∃ x y, xs[k]? = some x ∧ ys[k]? = some y ∧ d = .tup [x, y] := by
  rw [List.getElem?_zipWith] at h
  cases h1 : xs[k]? with
  | none => rw [h1] at h; cases h
  | some x =>
    cases h2 : ys[k]? with
    | none => rw [h1, h2] at h; cases h
    | some y =>
      rw [h1, h2] at h
      injection h with h
      exact ⟨x, y, rfl, rfl, h.symm⟩
theorem pair_new {T : Addr} {x y : V} {dx dy : D} (sb : Sb F H) (hT : H T = none) (rx : RO G F H [] x dx) (ry : RO G F H [] y dy) :
    ∃ F', (∀ a o, F a = some o → F' a = some o) ∧ (∀ a o, H a = some o → upd H T (.tup [x, y]) a = some o) ∧ Sb F' (upd H T (.tup [x, y])) ∧ (∀ a o, F' a = some o → F a = some o ∨ H a = none) ∧ RO G F' (upd H T (.tup [x, y])) [] (.ref T) (.tup [dx, dy]) := by
  have fT : F T = none := by
    cases q : F T with
    | none => rfl
    | some o => rw [sb T o q] at hT; cases hT
  refine ⟨upd F T (.tup [x, y]), upd_le fT, upd_le hT, fun b u z => ?_, fun b u z => ?_, .tup upd_same ?_⟩
  · by_cases e : b = T
    · subst e; rw [upd_same] at z ⊢; exact z
    · rw [upd_ne e] at z ⊢; exact sb b u z
  · by_cases e : b = T
    · subst e; exact .inr hT
    · rw [upd_ne e] at z; exact .inl z
  · exact ROs.consZ (rx.mono (upd_le fT) fun a z => nomatch z) (ROs.consZ (ry.mono (upd_le fT) fun a z => nomatch z) .nil)
theorem itok_zipL {K : PySem.W.Frag} {A B : Addr} {P : List Addr} {H0 : Hp} {vs ws : List V} {xs ys : List D} (h1 : F A = some (.lst vs)) (h2 : F B = some (.lst ws)) (r1 : ROs G F H [] vs xs) (r2 : ROs G F H [] ws ys) : ItOk G (Itz K A B) F P H0 (List.zipWith (fun x y => .tup [x, y]) xs ys) where
  go := fun F' H' k d q1 _ q2 q3 => by
    obtain ⟨x, y, e1, e2, rfl⟩ := zipW_get q3
    obtain ⟨u, hu, ru⟩ := r1.get e1
    obtain ⟨w, hw, rw'⟩ := r2.get e2
    refine ⟨⟨vs, ws, u, w, SqL.of (q2 _ _ (q1 _ _ h1)), SqL.of (q2 _ _ (q1 _ _ h2)), hu, hw⟩, fun v H2 yl => ?_⟩
    obtain ⟨T, x', y', rfl, hT, rfl, f1, f2⟩ := yl
    have g1 := f1 vs (SqL.of (q2 _ _ (q1 _ _ h1)))
    have g2 := f2 ws (SqL.of (q2 _ _ (q1 _ _ h2)))
    rw [hu] at g1; rw [hw] at g2
    cases g1; cases g2
    exact pair_new q2 hT (ru.monoZ q1) (rw'.monoZ q1)
  stop := fun F' H' q1 _ q2 => ⟨vs, ws, SqL.of (q2 _ _ (q1 _ _ h1)), SqL.of (q2 _ _ (q1 _ _ h2)), by
    rw [List.length_zipWith, r1.length, r2.length]; omega⟩
theorem itok_zipT {K : PySem.W.Frag} {A B : Addr} {P : List Addr} {H0 : Hp} {vs ws : List V} {xs ys : List D} (h1 : F A = some (.tup vs)) (h2 : F B = some (.tup ws)) (r1 : ROs G F H [] vs xs) (r2 : ROs G F H [] ws ys) : ItOk G (RZ.ItzT K A B) F P H0 (List.zipWith (fun x y => .tup [x, y]) xs ys) where
  go := fun F' H' k d q1 _ q2 q3 => by
    obtain ⟨x, y, e1, e2, rfl⟩ := zipW_get q3
    obtain ⟨u, hu, ru⟩ := r1.get e1
    obtain ⟨w, hw, rw'⟩ := r2.get e2
    refine ⟨⟨vs, ws, u, w, SqT.of (q2 _ _ (q1 _ _ h1)), SqT.of (q2 _ _ (q1 _ _ h2)), hu, hw⟩, fun v H2 yl => ?_⟩
    obtain ⟨T, x', y', rfl, hT, rfl, f1, f2⟩ := yl
    have g1 := f1 vs (SqT.of (q2 _ _ (q1 _ _ h1)))
    have g2 := f2 ws (SqT.of (q2 _ _ (q1 _ _ h2)))
    rw [hu] at g1; rw [hw] at g2
    cases g1; cases g2
    exact pair_new q2 hT (ru.monoZ q1) (rw'.monoZ q1)
  stop := fun F' H' q1 _ q2 => ⟨vs, ws, SqT.of (q2 _ _ (q1 _ _ h1)), SqT.of (q2 _ _ (q1 _ _ h2)), by
    rw [List.length_zipWith, r1.length, r2.length]; omega⟩
theorem si_zip2 {elts : List Expr} {kk : Nat} {tpos : Pos} (C : Cn X N sc fr) (h1 : ("zip" : Str) ∈ fr) (h2 : glB sc "zip" = true) (ha : SE X g W a m) (hb : SE X g W b n) (hs : starEach [a, b] X.env = (false, eval a X.env) :: starEach [b] X.env) (hs2 : starEach [b] X.env = (false, eval b X.env) :: starEach [] X.env) (hpl : (backTo pos (starEach [b] X.env)).any (·.1) = false) :
    SI X g W (.Tuple elts kk tpos) (.Call (.Name "zip" p2) [a, b] [] pos) (mZip2 m n) := PI.imp (RZ.pi_zipA (gl_ok C h2) (C.hfr _ h1) (pa_cons ha.z (pa_cons hb.z pa_nil hs2) hs) hs hpl) fun σ H R ⟨F, fp, e, s, h⟩ => by
  refine ⟨F, fp, e, s, ?_⟩
  unfold mZip2 at h
  cases q : m e with
  | ex c d e1 => rw [q] at h; exact h
  | no => rw [q] at h; exact h
  | ok d1 e1 =>
    rw [q] at h
    intro x F1 H1 fp1 s1 r1 tr1
    refine ⟨F1, fp1, e1, s1, ?_⟩
    simp only at h
    cases q1 : n e1 with
    | ex c d e2 => rw [q1] at h; exact XOut.trans h tr1
    | no => rw [q1] at h; exact h
    | ok d2 e2 =>
      rw [q1] at h
      intro y F2 H2 fp2 s2 r2 tr2
      simp only at h
      have r1 := r1.mono (F' := F2) (H' := H2) tr2.ff fun a z => nomatch z
      generalize frz d1 = z1 at h r1
      generalize frz d2 = z2 at h r2
      cases z1 with
      | tup xs =>
        cases z2 with
        | tup ys =>
          obtain ⟨A, vs, rfl, ha, ra⟩ := r1.tup_inv
          obtain ⟨B, ws, rfl, hb, rb⟩ := r2.tup_inv
          exact ⟨A, B, vs, ws, rfl, .inr ⟨SqT.of (s2.sub _ _ ha), SqT.of (s2.sub _ _ hb), h _ F2 H2 fp2 [] s2 rfl (tr1.trans tr2).nil (itok_zipT ha hb ra rb)⟩⟩
        | _ => exact h.elim
      | lst o xs =>
        cases z2 with
        | lst o2 ys =>
          obtain ⟨_, A, vs, rfl, ha, ra⟩ := r1.lst_inv
          obtain ⟨_, B, ws, rfl, hb, rb⟩ := r2.lst_inv
          exact ⟨A, B, vs, ws, rfl, .inl ⟨SqL.of (s2.sub _ _ ha), SqL.of (s2.sub _ _ hb), h _ F2 H2 fp2 [] s2 rfl (tr1.trans tr2).nil (itok_zipL ha hb ra rb)⟩⟩
        | _ => exact h.elim
      | _ => exact h.elim
/-! ### l.index(x) -/
def indexD : D → D → Option D
  | .lst _ ys, a => if eqOk 60 a && eqOks 59 ys then (ys.findIdx? fun z => eqvD z a).map fun j => .int (j : Nat) else none
  | _, _ => none
def mIdx (k : Nat) (ob : Op) : ME := fun e => match e[k]? with
  | some (some (.lst _ _)) => (ob.run e).bind fun p e1 => (PV.v k).see e1 fun dl e2 => p.see e2 fun d e3 => RE.of (indexD dl d) e3
  | _ => .no
theorem pds_get : ∀ {ds : List D} {k : Nat} {z : PyData}, (pds ds)[k]? = some z → ∃ d, ds[k]? = some d ∧ z = pd d
  | [], _, _, h => by cases h
  | d :: ds, 0, _, h => by injection h with h; exact ⟨d, rfl, h.symm⟩
  | d :: ds, k + 1, _, h => pds_get (ds := ds) (k := k) h
theorem eqOks_get {n : Nat} : ∀ {ds : List D} {k : Nat} {d : D}, eqOks n ds = true → ds[k]? = some d → eqOk n d = true
  | [], _, _, _, h => by cases h
  | d :: ds, k, d', h, hk => by
    have h2 : (eqOk n d && eqOks n ds) = true := by cases n <;> exact h
    rw [Bool.and_eq_true] at h2
    cases k with
    | zero => injection hk with hk; rw [← hk]; exact h2.1
    | succ k => exact eqOks_get h2.2 hk
theorem hr_index {x y : V} {dl d1 d : D} {Q : VK} (s : Sb F H) (r1 : RB G F H x dl) (r2 : RB G F H y d1) (h : indexD dl d1 = some d) (k : KR G F H d Q) : rIndexD G.K x [y] H Q := by
  cases dl <;> first | (cases h; done) | skip
  rename_i o ys
  have h : (if eqOk 60 d1 && eqOks 59 ys then (ys.findIdx? fun z => eqvD z d1).map (fun j => D.int (j : Nat)) else none) = some d := h
  split at h
  · rename_i he
    rw [Bool.and_eq_true] at he
    cases q : ys.findIdx? (fun z => eqvD z d1) with
    | none => rw [q] at h; cases h
    | some j =>
      rw [q] at h
      injection h with h; subst h
      obtain ⟨hj, h1, h2⟩ := List.findIdx?_eq_some_iff_getElem.mp q
      obtain ⟨_, a, vs, rfl, ha, ra⟩ := r1.lst_inv s
      have hl : ∀ {ds : List D}, (pds ds).length = ds.length := by
        intro ds
        induction ds with
        | nil => rfl
        | cons d ds ih => exact congrArg (· + 1) ih
      have gp : ∀ {ds : List D} {k : Nat} {d : D}, ds[k]? = some d → (pds ds)[k]? = some (pd d) := by
        intro ds
        induction ds with
        | nil => intro k d h; cases h
        | cons d ds ih =>
          intro k d' h
          cases k with
          | zero => injection h with h; subst h; rfl
          | succ k => exact ih h
      refine ⟨a, y, pd d1, pds ys, j, pd ys[j], rfl, rfl, dp_ofB (n := 60) (d := .lst o ys) s r1 he.2, dp_ofB s r2 he.1, shaped_of (n := 60) (d := .lst o ys) he.2 (by decide), shaped_of he.1 (by decide), gp (List.getElem?_eq_getElem hj), ?_, fun m z' hm hz => ?_, k.z s (.int _)⟩
      · rw [eqv_of 59 _ d1 60 (eqOks_get he.2 (List.getElem?_eq_getElem hj)) he.1]; exact h1
      · obtain ⟨d', e1, e2⟩ := pds_get hz
        subst e2
        rw [eqv_of 59 d' d1 60 (eqOks_get he.2 e1) he.1]
        have := h2 m hm
        have hm' : m < ys.length := Nat.lt_trans hm hj
        rw [List.getElem?_eq_getElem hm'] at e1
        injection e1 with e1
        subst e1
        simpa using this
  · cases h
theorem RO.lst_any {p : List Addr} {v : V} {o : Bool} {ds : List D} (s : Sb F H) (r : RO G F H p v (.lst o ds)) : ∃ a vs, v = .ref a ∧ H a = some (.lst vs) := by
  cases r with
  | lz e r => exact ⟨_, _, rfl, s _ _ e⟩
  | lo e r => exact ⟨_, _, rfl, e⟩
theorem se_index {k : Nat} {x : Str} (C : Cn X N sc fr) (hx : varB N sc k x = true) (hb : SOp X g W a ob) (hs : starEach [a] X.env = (false, eval a X.env) :: starEach [] X.env) (hl : (p3.endLine == pos.line) = true) :
    SE X g W (.Call (.Attribute (.Name x p2) "index" p3) [a] [] pos) (mIdx k ob) := PE.imp (pe_bm PySem.F.plainAttrs_list PySem.F.slot_list_index PySem.F.type_list_index (mt_indexD C.hu65) (pv_ok C hx) (pa_cons hb pa_nil hs) rfl (fewOk hs) hl hs) fun σ H Q h => by
  obtain ⟨F, fp, e, s, h⟩ := RdE.iff.mp h
  unfold mIdx at h
  cases q : e[k]? with
  | none => rw [q] at h; exact h.elim
  | some o =>
    cases o with
    | none => rw [q] at h; exact h.elim
    | some d0 =>
      cases d0 with
      | lst o xs0 =>
        rw [q] at h
        simp only at h
        obtain ⟨v, hv, r0⟩ := s.rep k _ q
        refine ⟨v, hv, ?_, ?_⟩
        · obtain ⟨a0, vs0, rfl, e0⟩ := r0.lst_any s.sub
          exact .inl ⟨rfl, _, SqL.of e0⟩
        · refine RdO.step ob s ?_
          cases q1 : ob.run e with
          | ok p e1 =>
            rw [q1] at h
            rw [RP.bind_ok] at h
            intro y F1 H1 fp1 s1 tr1 pv
            have ne := EOut.ne h
            obtain ⟨dl, e2, F2, fp2, s2, b2, tr2, kk⟩ := PV.see_ok (p := .v k) s1 hv rfl ne
            rw [← kk] at h
            have ne2 := EOut.ne h
            obtain ⟨d, e3, F3, fp3, s3, b3, tr3, kk3⟩ := PV.see_ok s2 (pv.mono tr2.ff) rfl ne2
            rw [← kk3] at h
            cases q5 : indexD dl d with
            | none => rw [q5] at h; exact h.elim
            | some dr =>
              rw [q5] at h
              have b2 := b2.mono tr3.ff fun _ _ z => z
              have kr := SO.kr (d := dr) s3 (Q := Q) ?_
              · exact hr_index s3.sub b2 b3 q5 kr
              · exact fun v F' H' fp' p s' t' tr => h v F' H' fp' p s' t' ((tr1.trans (tr2.trans tr3)).trans tr)
          | ex c d e1 => rw [q1] at h; exact h
          | no => rw [q1] at h; exact h.elim
      | _ => rw [q] at h; exact h.elim
end
end EV

/-! EvP: items of items of one's own lists; calls by keywords. -/
namespace EV
open PySem PySem.Spec PyProof.Rows L2
inductive IA where
  | s (i : Nat) | c (n : Int)
def ixAt : IA → DEnv → Option Int
  | .s i, e => match e[i]? with
    | some (some (.int n)) => some n
    | _ => none
  | .c n, _ => some n
def RdX : IA → TE
  | .s i => tVar i
  | .c n => tC (.int n)
def mIx2 (k : Nat) (i j : IA) : ME := fun e => match e[k]? with
  | some (some (.lst true rows)) => match ixAt i e with
    | some a => match ixAt j e with
      | some b => match atI rows a with
        | some (.lst true xs) => match atI xs b with
          | some d => if fzs xs = true then .ok d e else .no
          | none => .no
        | _ => .no
      | none => .no
    | none => .no
  | _ => .no
def mSet2 (k : Nat) (i j : IA) (m : ME) : MS := fun e => (m e).toS fun d e1 => match e1[k]? with
  | some (some (.lst true rows)) => match ixAt i e1 with
    | some a => match ixAt j e1 with
      | some b => match ixN rows.length a with
        | some r => match rows[r]? with
          | some (.lst true xs) => match ixN xs.length b with
            | some q => if (fzs xs && fz d) = true then .nx (e1.set k (some (.lst true (rows.set r (.lst true (xs.set q d)))))) else .no
            | none => .no
          | _ => .no
        | none => .no
      | none => .no
    | none => .no
  | _ => .no
section
variable {X : Cx} {N : List Str} {sc : Scope} {fr : List Str} {g : GF} {G : GI} {W : WX} {L : List Nat} {a b c : Expr} {es : List Expr} {pos p2 p3 p4 p5 : Pos} {oa ob : Op} {m n t : ME} {F H F1 H1 F' H' : Hp} {fp fp1 fp' : Nat → List Addr} {σ σ1 : L2.St} {e e' : DEnv} {Dn : Ends}
abbrev SX (X : Cx) (e : Expr) (i : IA) : Prop := PE X e (RdX i)
theorem sx_s (C : Cn X N sc fr) {i : Nat} {x : Str} (h : varB N sc i x = true) : SX X (.Name x pos) (.s i) := pv_ok C h
theorem sx_c {i : Int} {j : Nat} : SX X (.Constant (.int i) j pos) (.c i) := pe_int
theorem RdX.of {ia : IA} {n : Int} {Q : VK} (s : SO G F H fp σ e) (h : ixAt ia e = some n) (q : Q (.int n) H) : RdX ia σ H Q := by
  cases ia with
  | s i =>
    unfold ixAt at h
    simp only at h
    cases q1 : e[i]? with
    | none => rw [q1] at h; cases h
    | some o =>
      cases o with
      | none => rw [q1] at h; cases h
      | some d =>
        cases d <;> (rw [q1] at h; first | cases h; done | skip)
        obtain ⟨v, hv, r⟩ := s.rep i _ q1
        injection h with h; subst h
        exact ⟨v, hv, by rw [r.int_inv]; exact q⟩
  | c i =>
    injection h with h; subst h
    exact q
theorem ROs.own_at : ∀ {fs : List Addr} {vs : List V} {ds : List D} {n : Nat} {xs : List D}, ROs G F H fs vs ds → fs.Nodup → ds[n]? = some (.lst true xs) → fzs xs = true →
    ∃ a ws, vs[n]? = some (.ref a) ∧ a ∈ fs ∧ H a = some (.lst ws) ∧ ROs G F H [] ws xs ∧ ∀ ws' xs', ROs G F H [] ws' xs' → ROs G F (upd H a (.lst ws')) fs vs (ds.set n (.lst true xs'))
  | _, _, [], n, _, _, _, h, _ => by cases h
  | _, _, d :: ds, 0, xs, rs, nd, h, hz => by
    injection h with h; subst h
    obtain ⟨v, ws, f, fs, rfl, rfl, r1, r2⟩ := rs.invD
    obtain ⟨n1, n2, n3⟩ := List.nodup_append.mp nd
    obtain ⟨a, us, f1, rfl, ef, ha, ru⟩ := r1.lo_inv
    subst ef
    have e1 := ru.nil_of_fz hz
    subst e1
    refine ⟨a, us, rfl, List.mem_append_left _ (List.mem_cons_self ..), ha, ru, fun ws' xs' r' => .cons (.lo upd_same (r'.mono (fun _ _ z => z) fun c z => nomatch z)) (r2.mono (fun _ _ z => z) fun c z o w => ?_)⟩
    rw [upd_ne]
    · exact w
    · intro u; subst u; exact n3 c (List.mem_cons_self ..) c z rfl
  | _, _, d :: ds, n + 1, xs, rs, nd, h, hz => by
    obtain ⟨v, ws, f, fs, rfl, rfl, r1, r2⟩ := rs.invD
    obtain ⟨n1, n2, n3⟩ := List.nodup_append.mp nd
    obtain ⟨a, us, h1, h2, h3, h4, h5⟩ := ROs.own_at (n := n) r2 n2 h hz
    refine ⟨a, us, h1, List.mem_append_right _ h2, h3, h4, fun ws' xs' r' => .cons (r1.mono (fun _ _ z => z) fun c z o w => ?_) (h5 ws' xs' r')⟩
    rw [upd_ne]
    · exact w
    · intro u; subst u; exact n3 c z c h2 rfl
theorem atI_some {α : Type} {xs : List α} {i : Int} {d : α} (h : atI xs i = some d) : ∃ r, ixN xs.length i = some r ∧ xs[r]? = some d := by
  unfold atI at h
  cases q : ixN xs.length i with
  | none => rw [q] at h; cases h
  | some r => rw [q] at h; exact ⟨r, rfl, h⟩
theorem atI_of {α : Type} {xs : List α} {i : Int} {d : α} {r : Nat} (h : ixN xs.length i = some r) (h2 : xs[r]? = some d) : atI xs i = some d := by
  unfold atI; rw [h]; exact h2
theorem se_ix2 {k : Nat} {x : Str} {i j : IA} (C : Cn X N sc fr) (hx : varB N sc k x = true) (ha : SX X a i) (hb : SX X b j) (hs1 : PlainIx a) (hs2 : PlainIx b) : SE X g W (.Subscript (.Subscript (.Name x p2) a p3) b pos) (mIx2 k i j) :=
  PE.imp (pe_ix ix_list (pe_ix ix_list (pv_ok C hx) ha hs1) hb hs2) fun σ H Q h => by
  obtain ⟨F, fp, e, s, h⟩ := RdE.iff.mp h
  unfold mIx2 at h
  cases q : e[k]? with
  | none => rw [q] at h; exact h.elim
  | some o =>
    cases o with
    | none => rw [q] at h; exact h.elim
    | some d0 =>
      cases d0 with
      | lst o rows =>
        cases o with
        | false => rw [q] at h; exact h.elim
        | true =>
          rw [q] at h
          simp only at h
          cases q1 : ixAt i e with
          | none => rw [q1] at h; exact h.elim
          | some ai =>
            cases q2 : ixAt j e with
            | none => rw [q1, q2] at h; exact h.elim
            | some bi =>
              rw [q1, q2] at h
              simp only at h
              cases q3 : atI rows ai with
              | none => rw [q3] at h; exact h.elim
              | some dr =>
                cases dr with
                | lst o xs =>
                  cases o with
                  | false => rw [q3] at h; exact h.elim
                  | true =>
                    rw [q3] at h
                    simp only at h
                    cases q4 : atI xs bi with
                    | none => rw [q4] at h; exact h.elim
                    | some d =>
                      rw [q4] at h
                      simp only at h
                      split at h
                      · rename_i hz
                        obtain ⟨v, hv, r⟩ := s.rep k _ q
                        obtain ⟨A, vs, fs, rfl, ep, ha, rs⟩ := r.lo_inv
                        have nd := s.nd k
                        rw [ep] at nd
                        obtain ⟨r1, e1, e2⟩ := atI_some q3
                        obtain ⟨B, ws, g1, g2, g3, g4, _⟩ := rs.own_at (List.nodup_cons.mp nd).2 e2 hz
                        obtain ⟨r2, e3, e4⟩ := atI_some q4
                        obtain ⟨u, hu, ru⟩ := g4.get e4
                        refine ⟨_, hv, RdX.of s q1 ⟨A, vs, ai, .ref B, rfl, rfl, SqL.of ha, atI_of (r := r1) (by rw [rs.length]; exact e1) g1, RdX.of s q2 ⟨B, ws, bi, u, rfl, rfl, SqL.of g3, atI_of (r := r2) (by rw [g4.length]; exact e3) hu, ?_⟩⟩⟩
                        exact h u F H fp [] s (TO.z ru) Tr.refl.nil
                      · exact h.elim
                | _ => rw [q3] at h; exact h.elim
      | _ => rw [q] at h; exact h.elim
theorem ss_sub2 {k : Nat} {x : Str} {i j : IA} (C : Cn X N sc fr) (hx : varB N sc k x = true) (hi : SX X a i) (hj : SX X b j) (hp1 : PlainIx a) (hv : SE X g W c m) (hs : swapsWithSole [.Subscript (.Subscript (.Name x p2) a p3) b p4] c pos.line X.env = pure false) (hw : swappedStores [.Subscript (.Subscript (.Name x p2) a p3) b p4] c X.env = pure none)
    (h1 : (assignEach [.Subscript (.Subscript (.Name x p2) a p3) b p4] X.env).map (·.2) = [assign (.Subscript (.Subscript (.Name x p2) a p3) b p4) X.env])
    (ha : ∀ v, assign (.Subscript (.Subscript (.Name x p2) a p3) b p4) X.env v = (do
      let ov ← holding [v] (eval (.Subscript (.Name x p2) a p3) X.env)
      let iv ← holding [v, ov] (eval b X.env)
      standAt p4
      holding [v, ov, iv] (setItem ov iv v)
      release [v, ov, iv] [])) : SS X g W L (.Assign [.Subscript (.Subscript (.Name x p2) a p3) b p4] c pos) (mSet2 k i j m) :=
  PS.imp (ps_asg hv (pg_sub (pe_ix ix_list (pv_ok C hx) hi hp1) hj set_list ha) hs hw h1) fun D σ H ⟨F, fp, e, s, h⟩ => by
  refine RdE.iff.mpr ⟨F, fp, e, s, ?_⟩
  unfold mSet2 at h
  cases q : m e with
  | ex c d e1 => rw [q] at h; exact h.x
  | no => rw [q] at h; exact h
  | ok d e1 =>
    rw [q] at h
    rw [RE.toS_ok] at h
    intro v F1 H1 fp1 p s1 t1 tr1
    cases q0 : e1[k]? with
    | none => rw [q0] at h; exact h.elim
    | some o =>
      cases o with
      | none => rw [q0] at h; exact h.elim
      | some d0 =>
        cases d0 with
        | lst o rows =>
          cases o with
          | false => rw [q0] at h; exact h.elim
          | true =>
            rw [q0] at h
            simp only at h
            cases q1 : ixAt i e1 with
            | none => rw [q1] at h; exact h.elim
            | some ai =>
              cases q2 : ixAt j e1 with
              | none => rw [q1, q2] at h; exact h.elim
              | some bi =>
                rw [q1, q2] at h
                simp only at h
                cases q3 : ixN rows.length ai with
                | none => rw [q3] at h; exact h.elim
                | some r =>
                  rw [q3] at h
                  simp only at h
                  cases q4 : rows[r]? with
                  | none => rw [q4] at h; exact h.elim
                  | some dr =>
                    cases dr with
                    | lst o xs =>
                      cases o with
                      | false => rw [q4] at h; exact h.elim
                      | true =>
                        rw [q4] at h
                        simp only at h
                        cases q5 : ixN xs.length bi with
                        | none => rw [q5] at h; exact h.elim
                        | some qq =>
                          rw [q5] at h
                          simp only at h
                          split at h
                          · rename_i hz
                            rw [Bool.and_eq_true] at hz
                            obtain ⟨u, hu, ro⟩ := s1.rep k _ q0
                            obtain ⟨A, vs, fs, rfl, ep, ha, rs⟩ := ro.lo_inv
                            have nd := s1.nd k
                            rw [ep] at nd
                            obtain ⟨n1, n2⟩ := List.nodup_cons.mp nd
                            obtain ⟨B, ws, g1, g2, g3, g4, g5⟩ := rs.own_at n2 q4 hz.1
                            have ez : p = [] := t1.r.nil_of_fz hz.2
                            subst ez
                            have hAB : A ≠ B := fun w => n1 (w ▸ g2)
                            have rn : ROs (gOf X g) F1 H1 [] (ws.set qq v) (xs.set qq d) := by
                              obtain ⟨w, w1, w2, w3⟩ := ROs.put t1.r (j := qq) g4 (ixN_seq q5).2.1 List.nodup_nil List.nodup_nil fun c z => nomatch z
                              have : w = [] := List.eq_nil_iff_forall_not_mem.mpr fun c z => (w3 c z).elim (fun z => nomatch z) fun z => nomatch z
                              subst this
                              exact w1
                            refine ⟨_, hu, RdX.of s1 q1 ⟨A, vs, ai, .ref B, rfl, rfl, SqL.of ha, atI_of (r := r) (by rw [rs.length]; exact q3) g1, RdX.of s1 q2 ⟨B, ws, bi, qq, rfl, rfl, g3, by rw [g4.length]; exact q5, ?_⟩⟩⟩
                            have hH : ∀ b o, b ∉ fp1 k → H1 b = some o → upd H1 B (.lst (ws.set qq v)) b = some o := fun b o z w => by
                              rw [upd_ne]
                              · exact w
                              · intro y; subst y; rw [ep] at z; exact z (List.mem_cons_of_mem _ g2)
                            have sub : ∀ c, c ∈ A :: fs → c ∈ fp1 k ∨ c ∈ ([] : List Addr) := fun c z => .inl (by rw [ep]; exact z)
                            have rnew : RO (gOf X g) F1 (upd H1 B (.lst (ws.set qq v))) (A :: fs) (.ref A) (.lst true (rows.set r (.lst true (xs.set qq d)))) := .lo (by rw [upd_ne hAB]; exact ha) (g5 _ _ rn)
                            have s2 := s1.mutate (p := []) q0 hu (fun c z => nomatch z) hH rnew nd sub
                            exact h σ F1 _ _ s2 (fun _ _ => rfl) ((tr1.drop fun c z => z).trans (Tr.mutate (p := []) (O := fun _ => True) hH sub))
                          · exact h.elim
                    | _ => rw [q4] at h; exact h.elim
        | _ => rw [q0] at h; exact h.elim
end
end EV

/-! EvQ: calls by keywords. -/
namespace EV
open PySem PySem.Spec PyProof.Rows L2
inductive KS where
  | a (i : Nat) | d (k : Nat)
/-- the parameters' values: from the written arguments, from the defaults -/
def genL {α : Type} (x0 : α) (dfl : List α) : List KS → List α → List α
  | [], _ => []
  | .a i :: r, us => us.getD i x0 :: genL x0 dfl r us
  | .d k :: r, us => dfl.getD k x0 :: genL x0 dfl r us
inductive RZs where
  | ok (ds : List D) (e : DEnv) | ex (c : Nat) (d : D) (e : DEnv) | no
def mZs : List ME → DEnv → RZs
  | [], e => .ok [] e
  | m :: ms, e => match m e with
    | .ok d e1 => match mZs ms e1 with
      | .ok ds e2 => .ok (frz d :: ds) e2
      | .ex c d e2 => .ex c d e2
      | .no => .no
    | .ex c d e1 => .ex c d e1
    | .no => .no
def mCallK (C : List D → RC) (dfl : List D) (src : List KS) (ms : List ME) : ME := fun e => match mZs ms e with
  | .ok ds e1 => match C (genL .non dfl src ds) with
    | .ok d _ => .ok d e1
    | .ex c d _ => .ex c d e1
    | .no => .no
  | .ex c d e1 => .ex c d e1
  | .no => .no
def tZs (G : GI) (W : WX) : List ME → TA
  | [] => tNil
  | m :: ms => tCons (RdZ G W m) (tZs G W ms)
section
variable {X : Cx} {N : List Str} {sc : Scope} {fr : List Str} {g : GF} {G : GI} {W : WX} {L : List Nat} {a b c : Expr} {es : List Expr} {kws : List Keyword} {pos p2 p3 p4 p5 : Pos} {F H F1 H1 F' H' : Hp} {fp fp1 fp' : Nat → List Addr} {σ σ1 : L2.St} {e e' : DEnv}
theorem Vals.getD' : ∀ {vs : List V} {us : List Value} (i : Nat), Vals vs us → RelV (vs.getD i .non) (us.getD i .none)
  | [], _, i, r => by cases r; exact rfl
  | v :: vs, _, 0, r => by cases r with | cons a b => exact a
  | v :: vs, _, i + 1, r => by cases r with | cons a b => exact Vals.getD' i b
theorem gen_vals {dv vs : List V} {du us : List Value} (hd : Vals dv du) (h : Vals vs us) : ∀ src, Vals (genL .non dv src vs) (genL .none du src us)
  | [] => .nil
  | .a i :: r => .cons (Vals.getD' i h) (gen_vals hd h r)
  | .d i :: r => .cons (Vals.getD' i hd) (gen_vals hd h r)
theorem ROs.getD' : ∀ {vs : List V} {ds : List D} (i : Nat), ROs G F H [] vs ds → RO G F H [] (vs.getD i .non) (ds.getD i .non)
  | [], [], i, _ => by simp; exact .non
  | [], _ :: _, _, r => nomatch r.length
  | _ :: _, [], _, r => nomatch r.length
  | v :: vs, d :: ds, 0, r => r.unconsZ.1
  | v :: vs, d :: ds, i + 1, r => ROs.getD' i r.unconsZ.2
theorem gen_ROs {dv vs : List V} {dd ds : List D} (hd : ROs G F H [] dv dd) (h : ROs G F H [] vs ds) : ∀ src, ROs G F H [] (genL .non dv src vs) (genL .non dd src ds)
  | [] => .nil
  | .a i :: r => ROs.consZ (ROs.getD' i h) (gen_ROs hd h r)
  | .d i :: r => ROs.consZ (ROs.getD' i hd) (gen_ROs hd h r)
theorem genL_length {α : Type} {x0 : α} {dfl us : List α} : ∀ src, (genL x0 dfl src us).length = src.length
  | [] => rfl
  | .a i :: r => congrArg (· + 1) (genL_length r)
  | .d i :: r => congrArg (· + 1) (genL_length r)
abbrev SZs (X : Cx) (g : GF) (W : WX) (es : List Expr) (ms : List ME) : Prop := PA X es (tZs (gOf X g) W ms)
theorem sz_nil : SZs X g W [] [] := pa_nil
theorem sz_cons {m : ME} {ms : List ME} (ha : SE X g W a m) (hr : SZs X g W es ms) (hs : starEach (a :: es) X.env = (false, eval a X.env) :: starEach es X.env) : SZs X g W (a :: es) (m :: ms) := pa_cons ha.z hr hs
abbrev SKs (X : Cx) (g : GF) (W : WX) (kws : List Keyword) (ms : List ME) : Prop := PK X kws (tZs (gOf X g) W ms)
theorem sk_nil : SKs X g W [] [] := pk_nil
theorem sk_cons {nm : Option Str} {m : ME} {ms : List ME} (ha : SE X g W a m) (hr : SKs X g W kws ms) : SKs X g W (⟨nm, a, p2⟩ :: kws) (m :: ms) := pk_cons ha.z hr
/-- the written values, all of them -/
def ZOut (G : GI) (W : WX) (σ : L2.St) (F H : Hp) (fp : Nat → List Addr) (Q : List V → Hp → Prop) : RZs → Prop
  | .ok ds e' => ∀ vs F' H' fp', SO G F' H' fp' σ e' → ROs G F' H' [] vs ds → Tr F H (own fp) F' H' (own fp') → Q vs H'
  | .ex c d e' => XOut G W σ F H fp c d e'
  | .no => False
theorem zs_run : ∀ {ms : List ME} {F H : Hp} {fp : Nat → List Addr} {e : DEnv} {Q : List V → Hp → Prop}, SO G F H fp σ e → ZOut G W σ F H fp Q (mZs ms e) → tZs G W ms σ H Q
  | [], F, H, fp, e, Q, s, h => h [] F H fp s .nil Tr.refl
  | m :: ms, F, H, fp, e, Q, s, h => by
    refine ⟨F, fp, e, s, ?_⟩
    unfold mZs at h
    cases q : m e with
    | ex c d e1 => rw [q] at h; exact h
    | no => rw [q] at h; exact h
    | ok d e1 =>
      rw [q] at h
      intro v F1 H1 fp1 s1 r1 tr1
      simp only at h
      refine zs_run s1 ?_
      cases q1 : mZs ms e1 with
      | ex c d2 e2 => rw [q1] at h; exact XOut.trans h tr1
      | no => rw [q1] at h; exact h
      | ok ds e2 =>
        rw [q1] at h
        exact fun vs F2 H2 fp2 s2 r2 tr2 => h (v :: vs) F2 H2 fp2 s2 (ROs.consZ (r1.mono tr2.ff fun a z => nomatch z) r2) (tr1.trans tr2)
theorem mZs_app : ∀ {ms1 ms2 : List ME} {e : DEnv}, mZs (ms1 ++ ms2) e = match mZs ms1 e with
    | .ok ds e1 => match mZs ms2 e1 with
      | .ok ds2 e2 => .ok (ds ++ ds2) e2
      | .ex c d e2 => .ex c d e2
      | .no => .no
    | .ex c d e1 => .ex c d e1
    | .no => .no
  | [], ms2, e => by
    show mZs ms2 e = match mZs ms2 e with
      | .ok ds2 e2 => RZs.ok ([] ++ ds2) e2
      | .ex c d e2 => .ex c d e2
      | .no => .no
    cases mZs ms2 e <;> rfl
  | m :: ms1, ms2, e => by
    show (match m e with
      | .ok d e1 => match mZs (ms1 ++ ms2) e1 with
        | .ok ds e2 => RZs.ok (frz d :: ds) e2
        | .ex c d e2 => .ex c d e2
        | .no => .no
      | .ex c d e1 => .ex c d e1
      | .no => .no) = match (match m e with
      | .ok d e1 => match mZs ms1 e1 with
        | .ok ds e2 => RZs.ok (frz d :: ds) e2
        | .ex c d e2 => .ex c d e2
        | .no => .no
      | .ex c d e1 => .ex c d e1
      | .no => .no) with
      | .ok ds e1 => match mZs ms2 e1 with
        | .ok ds2 e2 => .ok (ds ++ ds2) e2
        | .ex c d e2 => .ex c d e2
        | .no => .no
      | .ex c d e1 => .ex c d e1
      | .no => .no
    cases m e with
    | ok d e1 =>
      simp only
      rw [mZs_app (ms1 := ms1)]
      cases mZs ms1 e1 with
      | ok ds e2 =>
        simp only
        cases mZs ms2 e2 <;> rfl
      | ex c d e2 => rfl
      | no => rfl
    | ex c d e1 => rfl
    | no => rfl
theorem callK_plain {C : List D → RC} {mask : List Bool} {dfl : List D} {dvs : List V} {src : List KS} {ms1 ms2 : List ME} (hm : src.length = mask.length) (hz : ∀ F H, ROs G F H [] dvs dfl) {Q : VK} (h : RdE G W (mCallK C dfl src (ms1 ++ ms2)) σ H Q) :
    tZs G W ms1 σ H fun vs H1 => tZs G W ms2 σ H1 fun zs H2 => Prom G mask C (genL .non dvs src (vs ++ zs)) H2 Q (WE W σ) := by
  obtain ⟨F, fp, e, s, h⟩ := RdE.iff.mp h
  refine zs_run s ?_
  unfold mCallK at h
  rw [mZs_app] at h
  cases q : mZs ms1 e with
  | ex c d e1 => rw [q] at h; exact h
  | no => rw [q] at h; exact h
  | ok ds e1 =>
    rw [q] at h
    intro vs F1 H1 fp1 s1 r1 tr1
    refine zs_run s1 ?_
    simp only at h
    cases q1 : mZs ms2 e1 with
    | ex c d e2 => rw [q1] at h; exact XOut.trans h tr1
    | no => rw [q1] at h; exact h
    | ok ds2 e2 =>
      rw [q1] at h
      simp only at h
      intro zs F2 H2 fp2 s2 r2 tr2
      have r1 := r1.mono (F' := F2) (H' := H2) tr2.ff fun a z => nomatch z
      have r3 : ROs G F2 H2 [] (vs ++ zs) (ds ++ ds2) := r1.append r2
      have r4 := gen_ROs (hz F2 H2) r3 src
      refine ⟨by rw [genL_length]; exact hm, F2, [], _, r4, List.nodup_nil, (fun a z => nomatch z), s2.sub, ?_⟩
      have fin : ∀ {F' H' : Hp} {qv r : List Addr} {v : V} {d : D}, RO G F' H' qv v d → (qv ++ r).Nodup → (∀ a, a ∈ qv ++ r → F' a = none) → (∀ a o, F' a = some o → H' a = some o) → Tr F2 H2 (· ∈ ([] : List Addr)) F' H' (· ∈ qv ++ r) →
          SO G F' H' fp2 σ e2 ∧ TO G F' H' fp2 qv v d ∧ Tr F H (own fp) F' H' (fun a => own fp2 a ∨ a ∈ qv) := by
        intro F' H' qv r v d h1 h3 h4 h5 h6
        have s3 := s2.frame (p := []) (fun a z => nomatch z) h6 h5
        refine ⟨s3, ⟨h1, (List.nodup_append.mp h3).1, fun a z => h4 a (List.mem_append_left _ z), fun a z w => ?_⟩, ((tr1.trans tr2).trans (h6.weak (P := own fp2) (P1 := fun a => own fp2 a ∨ a ∈ qv) (fun a z => nomatch z) fun a z => z.elim .inr fun z => .inl (List.mem_append_left _ z)))⟩
        rcases h6.ow a (List.mem_append_left _ z) with u | u
        · exact nomatch u
        · obtain ⟨i, w⟩ := w
          obtain ⟨o, ho⟩ := s2.th i a w
          rw [u] at ho; cases ho
      cases q3 : C (genL .non dfl src (ds ++ ds2)) with
      | ok d fn =>
        rw [q3] at h
        intro v F' H' qv r h1 h2 h3 h4 h5 h6
        obtain ⟨s3, t3, tr3⟩ := fin h1 h3 h4 h5 h6
        exact h v F' H' fp2 qv s3 t3 tr3
      | ex c d fn =>
        rw [q3] at h
        intro dx v F' H' qv r h1 h2 h3 h4 h5 h6 hx
        obtain ⟨s3, t3, tr3⟩ := fin h1 h3 h4 h5 h6
        exact h dx v F' H' fp2 qv s3 t3 tr3 hx
      | no => rw [q3] at h; exact h.elim
theorem run_fnKS {pins : List (Addr × Obj)} {s : Shared} {Q : VK} {us ws : List Value} {vs zs : List V} {k n : Nat} {f : Addr} {fd : FuncData} {ps ks : List Str} {sp : Sp} {gW : List Value → List Value → List Value} {gV : List V → List V → List V} {CX : CXT} {E : XK} (FO : FnOk X.prog X.w X.K X.mg X.base CX k f fd ps sp) (hr : Room k X.A) (hb : KBn X.K fd ps n ks gW gV) (hx : PassesAt CX X σ E)
    (I : Inv X pins σ H s) (r : Vals vs us) (rz : Vals zs ws) (l1 : vs.length = n) (l2 : zs.length = ks.length) (h : sp (gV vs zs) H Q E) : wpAny (model X.prog X.w) X.A (call (.ref f) us (ks.zip ws)) (EP X pins σ Q) X.xe s := by
  have r2 := hb.rel r rz
  refine wpAny_call (codeAny_mono (FO.run X.A X.stack s H ⟨us, ks.zip ws⟩ (gW us ws) (gV vs zs) Q E hr I.env0 (hb.to s us ws I.kIn (r.length.symm.trans l1) (rz.length.symm.trans l2)) r2 h) fun r s' hq => ?_)
  cases r with
  | error e => exact hx pins H s e s' I hq
  | ok fl =>
    cases fl with
    | ret u => exact I.after hq
    | next => exact False.elim hq
    | brk => exact False.elim hq
    | cont => exact False.elim hq
theorem tZs_len : ∀ {ms : List ME} {H : Hp} {Q : List V → Hp → Prop}, tZs G W ms σ H Q → tZs G W ms σ H fun vs H1 => vs.length = ms.length ∧ Q vs H1
  | [], H, Q, h => ⟨rfl, h⟩
  | m :: ms, H, Q, h => by
    obtain ⟨F, fp, e, s, h⟩ := h
    refine ⟨F, fp, e, s, ?_⟩
    cases q : m e with
    | ex c d e1 => rw [q] at h; exact h
    | no => rw [q] at h; exact h
    | ok d e1 =>
      rw [q] at h
      exact fun v F1 H1 fp1 s1 r1 tr1 => tZs_imp (fun vs H2 z => ⟨congrArg (· + 1) z.1, z.2⟩) (tZs_len (h v F1 H1 fp1 s1 r1 tr1))
where tZs_imp : ∀ {ms : List ME} {H : Hp} {Q Q' : List V → Hp → Prop}, (∀ vs H1, Q vs H1 → Q' vs H1) → tZs G W ms σ H Q → tZs G W ms σ H Q'
  | [], H, Q, Q', i, h => i _ _ h
  | m :: ms, H, Q, Q', i, h => by
    obtain ⟨F, fp, e, s, h⟩ := h
    refine ⟨F, fp, e, s, ?_⟩
    cases q : m e with
    | ex c d e1 => rw [q] at h; exact h
    | no => rw [q] at h; exact h
    | ok d e1 =>
      rw [q] at h
      exact fun v F1 H1 fp1 s1 r1 tr1 => tZs_imp (fun vs H2 z => i _ _ z) (h v F1 H1 fp1 s1 r1 tr1)
/-- f(k = v, ..) -/
theorem se_callK0 {C : List D → RC} {mask : List Bool} {dfl : List D} {dvs : List V} {dus : List Value} {src : List KS} {ms : List ME} {k : Nat} {f : Addr} {fd : FuncData} {ps ks : List Str} {x : Str} (tk : Takes X W)
    (FO : FnOk X.prog X.w X.K X.mg X.base (L2.CX X.prog X.w) k f fd ps (Prom (gOf X g) mask C)) (hr : Room k X.A) (hg : Gl X x) (hm : X.mg x = some (.ref f)) (hk : PySem.W.keepIn X.K (.ref f) = true)
    (hb : KBn X.K fd ps 0 ks (fun us ws => genL .none dus src (us ++ ws)) fun vs zs => genL .non dvs src (vs ++ zs)) (hz : ∀ F H, ROs (gOf X g) F H [] dvs dfl) (hl : src.length = mask.length) (hn : ms.length = ks.length) (hkw : SKs X g W kws ms)
    (hall : (backToKw pos (keywordEach kws X.env)).all (·.1.isSome) = true) (hks : (backToKw pos (keywordEach kws X.env)).filterMap (·.1) = ks) (hdb : (x == ("__debug__" : Str)) = false)
    (hpl : ((backTo pos (starEach [] X.env)).any (·.1) || (backToKw pos (keywordEach kws X.env)).any (·.1.isNone)) = false) :
    SE X g W (.Call (.Name x p2) [] kws pos) (mCallK C dfl src ms) := by
  refine ⟨fun pins s σ H Q I h => ?_⟩
  have h := callK_plain (ms1 := []) (ms2 := ms) hl hz h
  refine wpAny_Call_Name_kw (ld_glob I hg hm ?_ hdb)
  refine PySem.W.callWith_KW0 (h₀ := X.base) I.ok.mod.kin hk hall ?_ hpl
  refine thn (hkw.run pos pins s σ H _ I (tZs_len h)) fun ws s2 ⟨zs, H2, I2, rz, l2, q2⟩ => ⟨I2.kIn, ?_⟩
  rw [hks]
  exact run_fnKS (us := []) (vs := []) FO hr hb (passAt tk σ) I2 .nil rz rfl (l2.trans hn) q2
/-- f(e, .., k = v, ..) -/
theorem se_callK {C : List D → RC} {mask : List Bool} {dfl : List D} {dvs : List V} {dus : List Value} {src : List KS} {ms1 ms : List ME} {k n : Nat} {f : Addr} {fd : FuncData} {ps ks : List Str} {x : Str} (tk : Takes X W)
    (FO : FnOk X.prog X.w X.K X.mg X.base (L2.CX X.prog X.w) k f fd ps (Prom (gOf X g) mask C)) (hr : Room k X.A) (hg : Gl X x) (hm : X.mg x = some (.ref f)) (hk : PySem.W.keepIn X.K (.ref f) = true)
    (hb : KBn X.K fd ps n ks (fun us ws => genL .none dus src (us ++ ws)) fun vs zs => genL .non dvs src (vs ++ zs)) (hz : ∀ F H, ROs (gOf X g) F H [] dvs dfl) (hl : src.length = mask.length) (hn1 : ms1.length = n) (hn : ms.length = ks.length) (ha : SZs X g W (a :: es) ms1) (hkw : SKs X g W kws ms)
    (hall : (backToKw pos (keywordEach kws X.env)).all (·.1.isSome) = true) (hks : (backToKw pos (keywordEach kws X.env)).filterMap (·.1) = ks) (hdb : (x == ("__debug__" : Str)) = false) (he : starEach (a :: es) X.env = (false, eval a X.env) :: starEach es X.env)
    (hpl : ((backTo pos (starEach (a :: es) X.env)).any (·.1) || (backToKw pos (keywordEach kws X.env)).any (·.1.isNone)) = false) :
    SE X g W (.Call (.Name x p2) (a :: es) kws pos) (mCallK C dfl src (ms1 ++ ms)) := by
  refine ⟨fun pins s σ H Q I h => ?_⟩
  have h := callK_plain (ms1 := ms1) (ms2 := ms) hl hz h
  refine wpAny_Call_Name_kw (ld_glob I hg hm ?_ hdb)
  refine PySem.W.callWith_KW (h₀ := X.base) I.ok.mod.kin hk hall (thn (ha.run pos pins s σ H _ I (tZs_len h)) fun us s1 ⟨vs, H1, I1, r, l1, q⟩ => ?_) hpl he
  refine thn (hkw.run pos pins s1 σ H1 _ I1 (tZs_len q)) fun ws s2 ⟨zs, H2, I2, rz, l2, q2⟩ => ⟨I2.kIn, ?_⟩
  rw [hks]
  exact run_fnKS FO hr hb (passAt tk σ) I2 r rz (l1.trans hn1) (l2.trans hn) q2
end
/-- a def without defaults, called by keywords -/
theorem kbn0 {K : PySem.W.Frag} {x qual : Str} {params : Arguments} {body : List Stmt} {scope : Scope} {kws : List (Str × V)} {f : Addr} {fd : FuncData} {ps ks : List Str} {n : Nat} {src : List KS} (Fd : FunD K x qual params body scope [] kws f fd)
    (h : ∀ (kV doc pm : Value) (an : Option Addr) (cdv ct : Value) (us ws : List Value), us.length = n → ws.length = ks.length → bindArgs (PySem.W.fnOf x qual params body scope .none kV doc pm an cdv ct) ⟨us, ks.zip ws⟩ = pure (ps.zip (genL .none [] src (us ++ ws)))) :
    KBn K fd ps n ks (fun us ws => genL .none [] src (us ++ ws)) fun vs zs => genL .non [] src (vs ++ zs) := by
  obtain ⟨oc, od, dV, kV, doc, pm, an, cdv, ct, osl, rfl, lk, hcd, hD, hK⟩ := Fd.ex
  rcases hD with ⟨_, rfl⟩ | ⟨e, _⟩
  · exact ⟨fun s us ws X l1 l2 => .of_eq (h kV doc pm an cdv ct us ws l1 l2), fun r1 r2 => gen_vals .nil (r1.append r2) src⟩
  · exact absurd rfl e
end EV

/-! EvR: the forms that a printed proof uses. -/
namespace EV
open PySem PySem.Spec PyProof.Rows L2
/-- within a def's body -/
structure Cf (X : Cx) (W : WX) (N : List Str) (sc : Scope) (fr : List Str) : Prop extends Cn X N sc fr where
  fnT : ∀ x, X.fn x = true
  tk : Takes X W
  po : PassesOwn (model X.prog X.w) X.A X.env X.xe
  stk : X.stack = X.env :: X.outer
  frm : X.env.frame = some X.env.locals
def locB (N : List Str) (sc : Scope) (i : Nat) (x : Str) : Bool := decide (N[i]? = some x) && (match sc.names.lookup x with
  | some .local => true
  | some .cell => true
  | _ => false)
def locL (N : List Str) (sc : Scope) (i : Nat) (x : Str) : Bool := decide (N[i]? = some x) && (match sc.names.lookup x with
  | some .local => true
  | _ => false)
def mFz (m : ME) : ME := fun e => match m e with
  | .ok d e1 => .ok (frz d) e1
  | .ex c d e1 => .ex c d e1
  | .no => .no
section
variable {X : Cx} {N : List Str} {sc : Scope} {fr : List Str} {g : GF} {G : GI} {W : WX} {L : List Nat} {a b c : Expr} {es : List Expr} {kws : List Keyword} {pos p2 p3 p4 p5 : Pos} {F H F1 H1 F' H' : Hp} {fp fp1 fp' : Nat → List Addr} {σ σ1 : L2.St} {e e' : DEnv} {m n t : ME} {ms ns : MS}
theorem locB_ok {i : Nat} {x : Str} (C : Cn X N sc fr) (h : locB N sc i x = true) : X.N[i]? = some x ∧ Loc X.env.scope x := by
  unfold locB at h
  rw [Bool.and_eq_true, decide_eq_true_eq] at h
  refine ⟨by rw [C.hN]; exact h.1, ?_⟩
  rw [C.hsc]
  have h2 := h.2
  split at h2
  · rename_i q; exact .inl q
  · rename_i q; exact .inr q
  · cases h2
theorem locL_ok {i : Nat} {x : Str} (C : Cn X N sc fr) (h : locL N sc i x = true) : X.N[i]? = some x ∧ X.env.scope.names.lookup x = some .local := by
  unfold locL at h
  rw [Bool.and_eq_true, decide_eq_true_eq] at h
  refine ⟨by rw [C.hN]; exact h.1, ?_⟩
  rw [C.hsc]
  have h2 := h.2
  split at h2
  · rename_i q; exact q
  · cases h2
theorem Cn.nd' (C : Cn X N sc fr) : X.N.Nodup := by rw [C.hN]; exact C.nd
theorem pg_f (C : Cf X W N sc fr) {i : Nat} {x : Str} (h : locB N sc i x = true) : PG X (.Name x pos) (gName i) := pg_name C.nd' (locB_ok C.toCn h).1 (locB_ok C.toCn h).2 (.inl (C.fnT x))
theorem pg_b (C : Cn X N sc fr) {i : Nat} {x : Str} (h : locL N sc i x = true) : PG X (.Name x pos) (gName i) := pg_name C.nd' (locL_ok C h).1 (.inl (locL_ok C h).2) (.inr (locL_ok C h).2)
theorem pg_bc (C : Cn X N sc fr) {i : Nat} {x : Str} (h : locB N sc i x = true) (hf : X.fn x = true) : PG X (.Name x pos) (gName i) := pg_name C.nd' (locB_ok C h).1 (locB_ok C h).2 (.inl hf)
theorem ss_setC {i : Nat} {x : Str} (C : Cf X W N sc fr) (hi : locB N sc i x = true) (h : SE X g W a m) (hL : i ∉ L) (hs : swapsWith a (some (.Name x p2)) pos.line X.env = pure false) : SS X g W L (.Assign [.Name x p2] a pos) (mAsg (.v i) m) :=
  ss_set C.nd' (locB_ok C.toCn hi).1 (locB_ok C.toCn hi).2 h hL hs (.inl (C.fnT x))
theorem ss_augC {k : Nat} {x : Str} {op : Operator} {f : Int → Int → Int} (C : Cf X W N sc fr) (hi : locB N sc k x = true) (h : SE X g W a m) (ho : PIp X op (ipI f)) (hL : k ∉ L) : SS X g W L (.AugAssign (.Name x p2) op a pos) (mAug k f m) :=
  ss_aug C.nd' (locB_ok C.toCn hi).1 (locB_ok C.toCn hi).2 h ho hL (.inl (C.fnT x))
/-- an environment of that scope -/
def envS (sc : Scope) : Env := { scope := sc, locals := 0, globals := 0, cells := [] }
theorem sw_env {ts : List Expr} {v : Expr} {env : Env} (h : env.scope = sc) : swappedStores ts v env = swappedStores ts v (envS sc) := by
  unfold swappedStores Env.blockKind Env.kindOf
  rw [h]
  rfl
theorem ss_parC {i j : Nat} {x y : Str} {px py pt : Pos} {kt k2 : Nat} {pt2 : Pos} {ms : List Ar} (C : Cf X W N sc fr) (hi : locL N sc i x = true) (hj : locL N sc j y = true) (hij : i ≠ j)
    (ha : SA X g W [a, b] ms) (hw : swappedStores [.Tuple [.Name x px, .Name y py] kt pt] (.Tuple [a, b] k2 pt2) (envS sc) = pure (some [x, y])) (hL : i ∉ L ∧ j ∉ L) : SS X g W L (.Assign [.Tuple [.Name x px, .Name y py] kt pt] (.Tuple [a, b] k2 pt2) pos) (mPar [i, j] ms) :=
  ss_par C.calm C.nd' (locL_ok C.toCn hi).1 (locL_ok C.toCn hj).1 hij (locL_ok C.toCn hi).2 (locL_ok C.toCn hj).2 ha ((sw_env C.hsc).trans hw) hL
theorem ss_par3C {i j l : Nat} {x y z : Str} {px py pz pt : Pos} {kt k2 : Nat} {pt2 : Pos} {ms : List Ar} (C : Cf X W N sc fr) (hi : locL N sc i x = true) (hj : locL N sc j y = true) (hl : locL N sc l z = true) (hij : i ≠ j) (hil : i ≠ l) (hjl : j ≠ l)
    (ha : SA X g W [a, b, c] ms) (hw : swappedStores [.Tuple [.Name x px, .Name y py, .Name z pz] kt pt] (.Tuple [a, b, c] k2 pt2) (envS sc) = pure (some [x, y, z])) (hL : i ∉ L ∧ j ∉ L ∧ l ∉ L) : SS X g W L (.Assign [.Tuple [.Name x px, .Name y py, .Name z pz] kt pt] (.Tuple [a, b, c] k2 pt2) pos) (mPar [i, j, l] ms) :=
  ss_par3 C.calm C.nd' (locL_ok C.toCn hi).1 (locL_ok C.toCn hj).1 (locL_ok C.toCn hl).1 hij hil hjl (locL_ok C.toCn hi).2 (locL_ok C.toCn hj).2 (locL_ok C.toCn hl).2 ha ((sw_env C.hsc).trans hw) hL
theorem ss_asgC {tg : Expr} {t : CT} {r : TG} (C : Cf X W N sc fr) (h : SE X g W a m) (hg : PG X tg r) (hk : GOk (gOf X g) L t r) (hs : swapsWithSole [tg] a pos.line X.env = pure false) (hw : swappedStores [tg] a (envS sc) = pure none)
    (h1 : (assignEach [tg] X.env).map (·.2) = [assign tg X.env]) : SS X g W L (.Assign [tg] a pos) (mAsg t m) := ss_asg h hg hk hs ((sw_env C.hsc).trans hw) h1
theorem se_fz (h : SE X g W a m) : SE X g W a (mFz m) := PE.imp h.z fun σ H Q h => by
  obtain ⟨F, fp, e, s, h⟩ := RdE.iff.mp h
  refine ⟨F, fp, e, s, ?_⟩
  unfold mFz at h
  cases q : m e with
  | ok d e1 =>
    rw [q] at h
    exact fun v F1 H1 fp1 s1 r1 tr1 => h v F1 H1 fp1 [] s1 (TO.z r1) tr1.nil
  | ex c d e1 => rw [q] at h; exact h
  | no => rw [q] at h; exact h
theorem st_bool (h : SW X g W a m) : ST X g W a m := h.pt
theorem lc_swap {elt : Expr} {gs : List Comprehension} {scope : Scope} {py : Pos} {y : Str} {l : Nat} {i : Nat} (C : Cf X W N sc fr) (hk : sc.kind = .function) (hy : locL N sc i y = true) (hl : (py.line == pos.line) = true)
    (ha : (scope.names.any fun (n, k) => n == y && (k == .local || k == .cell)) = false) : swapsWith (.ListComp elt gs scope pos) (some (.Name y py)) l X.env = pure true := sw_true (by rw [C.hsc]; exact hk) (locL_ok C.toCn hy).2 hl ha
theorem ss_setLcC {i : Nat} {y : Str} {py spos : Pos} {elt tg iter : Expr} {ifs : List Expr} {scope : Scope} {own' : List (Str × Nat)} {t : CT} {r : TG} {mi : MI} {mc me : ME} (C : Cf X W N sc fr) (hy : locL N sc i y = true) (hk0 : sc.kind = .function) (hl : (py.line == pos.line) = true)
    (hal : (scope.names.any fun (n, k) => n == y && (k == .local || k == .cell)) = false) (hL : i ∉ L) (hi : SI X g W tg iter mi) (ok : blkC N sc scope own' = true)
    (hg : ∀ (s : Shared) (H : Hp) (A : Addr) (cl : List (Str × Addr)) (fp : List Addr), Cn (X.blk s H scope (compEnvC scope cl A X.env) fp) N (relS scope sc) fr → PG (X.blk s H scope (compEnvC scope cl A X.env) fp) tg r) (hk : ∀ L, (∀ i, i ∈ L → i ∉ own'.map (·.2)) → GOk (gOf X g) L t r)
    (ht : ∀ (s : Shared) (H : Hp) (A : Addr) (cl : List (Str × Addr)) (fp : List Addr), Cn (X.blk s H scope (compEnvC scope cl A X.env) fp) N (relS scope sc) fr → PTs (X.blk s H scope (compEnvC scope cl A X.env) fp) ifs (RdT (gOf X g) W0 mc))
    (he : ∀ (s : Shared) (H : Hp) (A : Addr) (cl : List (Str × Addr)) (fp : List Addr), Cn (X.blk s H scope (compEnvC scope cl A X.env) fp) N (relS scope sc) fr → SE (X.blk s H scope (compEnvC scope cl A X.env) fp) g W0 elt me) (hs : ∀ x, foldedSetIterable iter X.env x = pure x) :
    SS X g W L (.Assign [.Name y py] (.ListComp elt [⟨tg, iter, ifs, 0⟩] scope pos) spos) (mAsg (.v i) (mLc (own'.map (·.2)) t mi mc me)) :=
  ss_setLc C.calm C.nd' (locL_ok C.toCn hy).1 (locL_ok C.toCn hy).2 (lc_swap C hk0 hy hl hal) hL hi (blkOk_by (by rw [C.hN, C.hsc]; exact ok)) (fun s H A cl fp => hg s H A cl fp (C.toCn.blk s H A cl fp)) hk (fun s H A cl fp => ht s H A cl fp (C.toCn.blk s H A cl fp)) (fun s H A cl fp => he s H A cl fp (C.toCn.blk s H A cl fp)) hs
theorem se_lcC {elt tg iter : Expr} {ifs : List Expr} {scope : Scope} {own' : List (Str × Nat)} {t : CT} {r : TG} {mi : MI} {mc me : ME} (C : Cn X N sc fr) (hi : SI X g W tg iter mi) (ok : blkC N sc scope own' = true)
    (hg : ∀ (s : Shared) (H : Hp) (A : Addr) (cl : List (Str × Addr)) (fp : List Addr), Cn (X.blk s H scope (compEnvC scope cl A X.env) fp) N (relS scope sc) fr → PG (X.blk s H scope (compEnvC scope cl A X.env) fp) tg r) (hk : ∀ L, (∀ i, i ∈ L → i ∉ own'.map (·.2)) → GOk (gOf X g) L t r)
    (ht : ∀ (s : Shared) (H : Hp) (A : Addr) (cl : List (Str × Addr)) (fp : List Addr), Cn (X.blk s H scope (compEnvC scope cl A X.env) fp) N (relS scope sc) fr → PTs (X.blk s H scope (compEnvC scope cl A X.env) fp) ifs (RdT (gOf X g) W0 mc))
    (he : ∀ (s : Shared) (H : Hp) (A : Addr) (cl : List (Str × Addr)) (fp : List Addr), Cn (X.blk s H scope (compEnvC scope cl A X.env) fp) N (relS scope sc) fr → SE (X.blk s H scope (compEnvC scope cl A X.env) fp) g W0 elt me) (hs : ∀ x, foldedSetIterable iter X.env x = pure x) :
    SE X g W (.ListComp elt [⟨tg, iter, ifs, 0⟩] scope pos) (mLc (own'.map (·.2)) t mi mc me) :=
  se_lc C.calm C.nd' hi (blkOk_by (by rw [C.hN, C.hsc]; exact ok)) (fun s H A cl fp => hg s H A cl fp (C.blk s H A cl fp)) hk (fun s H A cl fp => ht s H A cl fp (C.blk s H A cl fp)) (fun s H A cl fp => he s H A cl fp (C.blk s H A cl fp)) hs
theorem se_lc2C {elt tg iter tg1 iter1 : Expr} {ifs ifs1 : List Expr} {scope : Scope} {own' : List (Str × Nat)} {own1 : List Nat} {t t1 : CT} {r r1 : TG} {mi mi1 : MI} {mc mc1 me : ME} (C : Cn X N sc fr) (hi : SI X g W tg iter mi) (ok : blkC N sc scope own' = true) (hsub : ∀ i ∈ own1, i ∈ own'.map (·.2))
    (hg : ∀ (s : Shared) (H : Hp) (A : Addr) (cl : List (Str × Addr)) (fp : List Addr), Cn (X.blk s H scope (compEnvC scope cl A X.env) fp) N (relS scope sc) fr → PG (X.blk s H scope (compEnvC scope cl A X.env) fp) tg r) (hk : ∀ L, (∀ i, i ∈ L → i ∉ own'.map (·.2)) → GOk (gOf X g) L t r)
    (ht : ∀ (s : Shared) (H : Hp) (A : Addr) (cl : List (Str × Addr)) (fp : List Addr), Cn (X.blk s H scope (compEnvC scope cl A X.env) fp) N (relS scope sc) fr → PTs (X.blk s H scope (compEnvC scope cl A X.env) fp) ifs (RdT (gOf X g) W0 mc))
    (he : ∀ (s : Shared) (H : Hp) (A : Addr) (cl : List (Str × Addr)) (fp : List Addr), Cn (X.blk s H scope (compEnvC scope cl A X.env) fp) N (relS scope sc) fr → SE (X.blk s H scope (compEnvC scope cl A X.env) fp) g W0 elt me) (hs : ∀ x, foldedSetIterable iter X.env x = pure x)
    (hi1 : ∀ (s : Shared) (H : Hp) (A : Addr) (cl : List (Str × Addr)) (fp : List Addr), Cn (X.blk s H scope (compEnvC scope cl A X.env) fp) N (relS scope sc) fr → SI (X.blk s H scope (compEnvC scope cl A X.env) fp) g W0 tg1 iter1 mi1)
    (hg1 : ∀ (s : Shared) (H : Hp) (A : Addr) (cl : List (Str × Addr)) (fp : List Addr), Cn (X.blk s H scope (compEnvC scope cl A X.env) fp) N (relS scope sc) fr → PG (X.blk s H scope (compEnvC scope cl A X.env) fp) tg1 r1) (hk1 : ∀ L, (∀ i, i ∈ L → i ∉ own1) → GOk (gOf X g) L t1 r1)
    (ht1 : ∀ (s : Shared) (H : Hp) (A : Addr) (cl : List (Str × Addr)) (fp : List Addr), Cn (X.blk s H scope (compEnvC scope cl A X.env) fp) N (relS scope sc) fr → PTs (X.blk s H scope (compEnvC scope cl A X.env) fp) ifs1 (RdT (gOf X g) W0 mc1))
    (hs1 : ∀ env x, foldedSetIterable iter1 env x = pure x) :
    SE X g W (.ListComp elt [⟨tg, iter, ifs, 0⟩, ⟨tg1, iter1, ifs1, 0⟩] scope pos) (mLc2 (own'.map (·.2)) t mi mc own1 t1 mi1 mc1 me) :=
  se_lc2 C.calm C.nd' hi (blkOk_by (by rw [C.hN, C.hsc]; exact ok)) hsub (fun s H A cl fp => hg s H A cl fp (C.blk s H A cl fp)) hk (fun s H A cl fp => ht s H A cl fp (C.blk s H A cl fp)) (fun s H A cl fp => he s H A cl fp (C.blk s H A cl fp)) hs (fun s H A cl fp => hi1 s H A cl fp (C.blk s H A cl fp)) (fun s H A cl fp => hg1 s H A cl fp (C.blk s H A cl fp)) hk1 (fun s H A cl fp => ht1 s H A cl fp (C.blk s H A cl fp)) hs1
/-- targets by their shape -/
theorem gok_vb {i : Nat} {own' : List Nat} (h : decide (i ∈ own') = true) : ∀ L, (∀ j, j ∈ L → j ∉ own') → GOk G L (.v i) (gName i) := fun L hL => gok_v fun z => hL i z (of_decide_eq_true h)
end
/-- nothing is promised -/
theorem fn_no {P : Program} {w : World} {K : PySem.W.Frag} {mg : Str → Option Value} {base : Heap} {CX : CXT} {k : Nat} {f : Addr} {fd : FuncData} {ps : List Str} {G : GI} {mask : List Bool} (h : mask.length = ps.length) : FnOk P w K mg base CX k f fd ps (Prom G mask fun _ => .no) :=
  ⟨Prom.len h, fun _ _ _ _ _ _ _ _ _ _ _ _ _ ⟨_, _, _, _, _, _, _, _, z⟩ => z.elim⟩
section
variable {P : Program} {w : World} {K : PySem.W.Frag} {mg : Str → Option Value} {base : Heap} {x qual : Str} {params : Arguments} {body : List Stmt} {scope : Scope} {dvs : List V} {kws : List (Str × V)} {f : Addr} {fd : FuncData}
theorem fn_okC {N ps fr : List Str} {mask : List Bool} {k : Nat} {m : MS} {g : GF} (Fd : FunD K x qual params body scope dvs kws f fd) (S : FnScope N ps scope) (hm : mask.length = ps.length) (hn : mask.length ≤ N.length) (hfr : ∀ x ∈ fr, mg x = none)
    (hb : ∀ (X : Cx) (W : WX), X.prog = P → X.w = w → X.K = K → X.mg = mg → X.base = base → Room k X.A → Cf X W N scope fr → SSs X g W (lix 0 mask) body m) :
    FnOk P w K mg base (L2.CX P w) (k + 1) f fd ps (Prom ⟨g, K⟩ mask (callF N.length mask m)) :=
  fn_ok Fd S hm hn hfr fun cdv A outer s H E hr hc ht hp => hb _ _ rfl rfl rfl rfl rfl hr ⟨hc, fun _ => rfl, ht, hp, rfl, rfl⟩
theorem weakCX {C1 C2 : CXT} {k : Nat} {ps : List Str} {sp : Sp} (h : ∀ o H s E u s', C1 o H s E u s' → C2 o H s E u s') (Fo : FnOk P w K mg base C1 k f fd ps sp) : FnOk P w K mg base C2 k f fd ps sp :=
  ⟨Fo.len, fun A outer s H args us vs Q E hr he hb hv hs => codeAny_mono (Fo.run A outer s H args us vs Q E hr he hb hv hs) fun r s' hq => by
    cases r with
    | error e => exact h _ _ _ _ _ _ hq
    | ok fl => cases fl <;> exact hq⟩
end
end EV

/-! EvS: comparisons as tests. -/
namespace EV
open PySem PySem.Spec PyProof.Rows L2
section
variable {X : Cx} {N : List Str} {sc : Scope} {fr : List Str} {g : GF} {G : GI} {W : WX} {L : List Nat} {a b c : Expr} {es : List Expr} {pos p2 p3 p4 : Pos} {oa ob : Op} {m n t : ME} {σ : L2.St} {H : Hp}
theorem RdT.toE {Q : Bool → Hp → Prop} (h : RdT G W m σ H Q) : RdE G W m σ H fun x H1 => ∃ k, x = .bl k ∧ Q k H1 := by
  obtain ⟨F, fp, e, s, h⟩ := h
  refine RdE.iff.mpr ⟨F, fp, e, s, ?_⟩
  cases q : m e with
  | ok d e1 =>
    rw [q] at h
    cases d with
    | bl b =>
      intro v F' H' fp' p s' t' tr
      refine ⟨b, t'.r.bl_inv, h F' H' fp' s' (tr.drop fun _ z => .inl z)⟩
    | _ => exact h.elim
  | ex c d e1 => rw [q] at h; exact h
  | no => rw [q] at h; exact h
theorem stc {e : Expr} {t : TE} (h : PT X e (tTest t)) (i : ∀ σ H Q, RdE (gOf X g) W m σ H Q → t σ H Q) : ST X g W e m := PT.imp h fun σ H Q hq => i σ H _ (RdT.toE hq)
theorem st_lt (ha : SOp X g W a oa) (hb : SOp X g W b ob) : ST X g W (.Compare a [.Lt] [b] pos) (mOp2 (cmpD fun i j => decide (i < j)) oa ob) := stc (pt_cmpR op_lt ha hb (nomark _)) fun _ _ _ h => rd_op2 (fun _ _ _ _ _ _ _ _ s r1 r2 h k => hr_cmp s r1 r2 h k) h
theorem st_le (ha : SOp X g W a oa) (hb : SOp X g W b ob) : ST X g W (.Compare a [.LtE] [b] pos) (mOp2 (cmpD fun i j => decide (i ≤ j)) oa ob) := stc (pt_cmpR op_le ha hb (nomark _)) fun _ _ _ h => rd_op2 (fun _ _ _ _ _ _ _ _ s r1 r2 h k => hr_cmp s r1 r2 h k) h
theorem st_gt (ha : SOp X g W a oa) (hb : SOp X g W b ob) : ST X g W (.Compare a [.Gt] [b] pos) (mOp2 (cmpD fun i j => decide (j < i)) oa ob) := stc (pt_cmpR op_gt ha hb (nomark _)) fun _ _ _ h => rd_op2 (fun _ _ _ _ _ _ _ _ s r1 r2 h k => hr_cmp s r1 r2 h k) h
theorem st_ge (ha : SOp X g W a oa) (hb : SOp X g W b ob) : ST X g W (.Compare a [.GtE] [b] pos) (mOp2 (cmpD fun i j => decide (j ≤ i)) oa ob) := stc (pt_cmpR op_ge ha hb (nomark _)) fun _ _ _ h => rd_op2 (fun _ _ _ _ _ _ _ _ s r1 r2 h k => hr_cmp s r1 r2 h k) h
theorem st_eq (C : Cn X N sc fr) (ha : SOp X g W a oa) (hb : SOp X g W b ob) : ST X g W (.Compare a [.Eq] [b] pos) (mOp2 eqD oa ob) := stc (pt_cmpR (op_eqD C.hu64) ha hb (nomark _)) fun _ _ _ h => rd_op2 (fun _ _ _ _ _ _ _ _ s r1 r2 h k => hr_eq s r1 r2 h k) h
theorem st_ne (C : Cn X N sc fr) (ha : SOp X g W a oa) (hb : SOp X g W b ob) : ST X g W (.Compare a [.NotEq] [b] pos) (mOp2 neD oa ob) := stc (pt_cmpR (op_neD C.hu64) ha hb (nomark _)) fun _ _ _ h => rd_op2 (fun _ _ _ _ _ _ _ _ s r1 r2 h k => hr_ne s r1 r2 h k) h
theorem st_isN (ha : SOp X g W a oa) {j : Nat} : ST X g W (.Compare a [.Is] [.Constant .none j p2] pos) (mOp1 (fun d => some (.bl (isN d))) oa) := stc (pt_cmp (pc_isN ha) rfl) fun _ _ _ h => rd_op1 (r := fun x H Q => Q (.bl (decide (x = .non))) H) (fun _ _ _ _ _ _ s r1 h k => hr_isN s r1 h k) h
theorem st_notN (ha : SOp X g W a oa) {j : Nat} : ST X g W (.Compare a [.IsNot] [.Constant .none j p2] pos) (mOp1 (fun d => some (.bl (!isN d))) oa) := stc (pt_cmp (pc_notN ha) rfl) fun _ _ _ h => rd_op1 (r := fun x H Q => Q (.bl (!decide (x = .non))) H) (fun _ _ _ _ _ _ s r1 h k => hr_notN s r1 h k) h
theorem st_isB {k : Bool} (ha : SOp X g W a oa) {j : Nat} : ST X g W (.Compare a [.Is] [.Constant (.bool k) j p2] pos) (mOp1 (fun d => some (.bl (isB k d))) oa) := stc (pt_cmpR (op_isC (b := k)) ha pe_bl (nomark _)) fun _ _ _ h =>
  rd_op1 (r := fun x H Q => V.bl k = V.bl k ∧ Q (.bl (decide (x = .bl k))) H) (fun _ _ _ _ _ _ s r1 h kk => ⟨rfl, by injection h with h; subst h; rw [isB_rep r1]; exact kk.z s (.bl _)⟩) h
theorem st_notB {k : Bool} (ha : SOp X g W a oa) {j : Nat} : ST X g W (.Compare a [.IsNot] [.Constant (.bool k) j p2] pos) (mOp1 (fun d => some (.bl (!isB k d))) oa) := stc (pt_cmpR (op_isnotC (b := k)) ha pe_bl (nomark _)) fun _ _ _ h =>
  rd_op1 (r := fun x H Q => V.bl k = V.bl k ∧ Q (.bl (!decide (x = .bl k))) H) (fun _ _ _ _ _ _ s r1 h kk => ⟨rfl, by injection h with h; subst h; rw [isB_rep r1]; exact kk.z s (.bl _)⟩) h
theorem st_in (C : Cn X N sc fr) (ha : SOp X g W a oa) (hb : SOp X g W b ob) (hm : behindInMarks .In b = false) : ST X g W (.Compare a [.In] [b] pos) (mOp2 inB oa ob) :=
  stc (pt_cmpR ((op_inD C.hu65).or (op_in_seq.or (op_inDk C.hu1))) ha hb hm) fun _ _ _ h => rd_op2 (r := fun x y H Q => rInD X.K x y H Q ∨ rIn X.K false x y H Q ∨ ∃ a o, y = V.ref a ∧ DGet H a x o ∧ Q (V.bl o.isSome) H) (fun _ _ _ _ _ _ _ _ s r1 r2 h k => by
    obtain ⟨n, q, rfl⟩ := inB_some h
    have z := k.z s (.bl n)
    rcases hr_in s r1 r2 q with ⟨d, ds, h1, h2, h3, h4, h5⟩ | ⟨p, xs, h1, h2, h3, h4, h5⟩ | ⟨a, o, h1, h2, h3⟩
    · exact .inl ⟨d, ds, h1, h2, h3, h4, by rw [h5]; exact z⟩
    · exact .inr (.inl ⟨p, xs, h1, h2, h3, h4, by first | (rw [if_neg Bool.false_ne_true, h5]; exact z) | (rw [if_pos rfl, h5]; exact z)⟩)
    · exact .inr (.inr ⟨a, o, h1, h2, by rw [h3]; exact z⟩)) h
theorem st_notin (C : Cn X N sc fr) (ha : SOp X g W a oa) (hb : SOp X g W b ob) (hm : behindInMarks .NotIn b = false) : ST X g W (.Compare a [.NotIn] [b] pos) (mOp2 notinB oa ob) :=
  stc (pt_cmpR ((op_notInD C.hu65).or (op_notIn_seq.or (op_notinDk C.hu1))) ha hb hm) fun _ _ _ h => rd_op2 (r := fun x y H Q => rNotInD X.K x y H Q ∨ rIn X.K true x y H Q ∨ ∃ a o, y = V.ref a ∧ DGet H a x o ∧ Q (V.bl !o.isSome) H) (fun _ _ _ _ _ _ _ _ s r1 r2 h k => by
    obtain ⟨n, q, rfl⟩ := notinB_some h
    have z := k.z s (.bl !n)
    rcases hr_in s r1 r2 q with ⟨d, ds, h1, h2, h3, h4, h5⟩ | ⟨p, xs, h1, h2, h3, h4, h5⟩ | ⟨a, o, h1, h2, h3⟩
    · exact .inl ⟨d, ds, h1, h2, h3, h4, by rw [h5]; exact z⟩
    · exact .inr (.inl ⟨p, xs, h1, h2, h3, h4, by first | (rw [if_neg Bool.false_ne_true, h5]; exact z) | (rw [if_pos rfl, h5]; exact z)⟩)
    · exact .inr (.inr ⟨a, o, h1, h2, by rw [h3]; exact z⟩)) h
theorem sa_consT {m : ME} {ms : List Ar} (ha : SE X g W a m) (hr : SA X g W es ms) (hs : starEach (a :: es) X.env = (false, eval a X.env) :: starEach es X.env) : SA X g W (a :: es) (.t m :: ms) := sa_cons (m := .t m) ha hr hs
theorem sa_consL {j : Nat} {ms : List Ar} (ha : PE X a (tVar j)) (hr : SA X g W es ms) (hs : starEach (a :: es) X.env = (false, eval a X.env) :: starEach es X.env) : SA X g W (a :: es) (.l j :: ms) := sa_cons (m := .l j) ha hr hs
end
end EV

/-! EvT: the plain functions reckoned out. -/
namespace EV
open PySem PySem.Spec L2
section
variable {m n t : ME} {ms ns : MS} {e e1 : DEnv} {d : D} {oa ob : Op} {i k : Nat}
@[simp] theorem ap_seq : mSeq ms ns e = (ms e).seq ns := rfl
@[simp] theorem ap_expr : mExpr m e = (m e).toS fun _ e1 => .nx e1 := rfl
@[simp] theorem ap_ret : mRet m e = (m e).toS fun d e1 => .rt d e1 := rfl
@[simp] theorem ap_retN : mRetN e = .rt .non e := rfl
@[simp] theorem ap_asg : mAsg (.v i) m e = (m e).toS fun d e1 => .nx (e1.set i (some d)) := rfl
@[simp] theorem ap_asgT {ts : List CT} : mAsg (.t ts) m e = (m e).toS fun d e1 => match put (.t ts) d e1 with
  | some e2 => .nx e2
  | none => .no := rfl
@[simp] theorem ap_ifS : mIfS t ms ns e = match t e with
  | .ok (.bl true) e1 => ms e1
  | .ok (.bl false) e1 => ns e1
  | .ok _ _ => .no
  | .ex c d e1 => .ex c d e1
  | .no => .no := rfl
@[simp] theorem ap_if : mIf t m n e = match t e with
  | .ok (.bl true) e1 => m e1
  | .ok (.bl false) e1 => n e1
  | .ok _ _ => .no
  | .ex c d e1 => .ex c d e1
  | .no => .no := rfl
@[simp] theorem ap_op1 {f : D → Option D} : mOp1 f oa e = (oa.run e).bind fun p e1 => p.see e1 fun d e2 => RE.of (f d) e2 := rfl
@[simp] theorem ap_op2 {f : D → D → Option D} : mOp2 f oa ob e = (oa.run e).bind fun p e1 => (ob.run e1).bind fun q e2 => p.see e2 fun d e3 => q.see e3 fun d2 e4 => RE.of (f d d2) e4 := rfl
@[simp] theorem ap_tru : mTru oa e = (oa.run e).bind fun p e1 => p.see e1 fun d e2 => RE.of ((truD d).map .bl) e2 := rfl
@[simp] theorem ap_c : mC d e = .ok d e := rfl
@[simp] theorem ap_v : mV k e = match e[k]? with
  | some (some d) => if fz d = true then .ok d e else .ok (frz d) (e.set k (some (frz d)))
  | _ => .no := rfl
@[simp] theorem ap_mv : mMv k e = match e[k]? with
  | some (some d) => .ok d (e.set k none)
  | _ => .no := rfl
@[simp] theorem ap_fz : mFz m e = match m e with
  | .ok d e1 => .ok (frz d) e1
  | .ex c d e1 => .ex c d e1
  | .no => .no := rfl
@[simp] theorem ap_runV : (Op.v k).run e = match e[k]? with
  | some (some _) => .ok (.v k) e
  | _ => .no := rfl
@[simp] theorem ap_runE : (Op.e m).run e = match m e with
  | .ok x e1 => .ok (.d (frz x)) e1
  | .ex c x e1 => .ex c x e1
  | .no => .no := rfl
@[simp] theorem ap_seeD {f : D → DEnv → RE} : (PV.d d).see e f = f d e := rfl
@[simp] theorem ap_seeV {f : D → DEnv → RE} : (PV.v k).see e f = match e[k]? with
  | some (some d) => if vwOk d = true then f (vw d) e else f (frz d) (e.set k (some (frz d)))
  | _ => .no := rfl
@[simp] theorem ap_ofS : RE.of (some d) e = .ok d e := rfl
@[simp] theorem ap_ofN : RE.of none e = .no := rfl
@[simp] theorem frz_non : frz .non = .non := rfl
@[simp] theorem frz_bl {b : Bool} : frz (.bl b) = .bl b := rfl
@[simp] theorem frz_int {b : Int} : frz (.int b) = .int b := rfl
@[simp] theorem frz_str {b : Str} : frz (.str b) = .str b := rfl
@[simp] theorem frz_tup {b : List D} : frz (.tup b) = .tup (frzs b) := rfl
@[simp] theorem frz_lst {o : Bool} {b : List D} : frz (.lst o b) = .lst false (frzs b) := rfl
@[simp] theorem frz_scr {b : List Int} : frz (.scr b) = .scr b := rfl
@[simp] theorem frzs_nil : frzs [] = [] := rfl
@[simp] theorem frzs_cons {b : List D} : frzs (d :: b) = frz d :: frzs b := rfl
@[simp] theorem fz_non : fz .non = true := rfl
@[simp] theorem fz_bl {b : Bool} : fz (.bl b) = true := rfl
@[simp] theorem fz_int {b : Int} : fz (.int b) = true := rfl
@[simp] theorem fz_str {b : Str} : fz (.str b) = true := rfl
@[simp] theorem fz_tup {b : List D} : fz (.tup b) = fzs b := rfl
@[simp] theorem fz_lst {o : Bool} {b : List D} : fz (.lst o b) = (!o && fzs b) := by cases o <;> rfl
@[simp] theorem fz_scr {b : List Int} : fz (.scr b) = true := rfl
@[simp] theorem fzs_nil : fzs [] = true := rfl
@[simp] theorem fzs_cons {b : List D} : fzs (d :: b) = (fz d && fzs b) := rfl
@[simp] theorem vw_non : vw .non = .non := rfl
@[simp] theorem vw_bl {b : Bool} : vw (.bl b) = .bl b := rfl
@[simp] theorem vw_int {b : Int} : vw (.int b) = .int b := rfl
@[simp] theorem vw_str {b : Str} : vw (.str b) = .str b := rfl
@[simp] theorem vw_tup {b : List D} : vw (.tup b) = .tup b := rfl
@[simp] theorem vw_lst {o : Bool} {b : List D} : vw (.lst o b) = .lst false b := rfl
@[simp] theorem vw_scr {b : List Int} : vw (.scr b) = .scr b := rfl
@[simp] theorem vw_dk {o : Bool} {b : List (Key × D)} : vw (.dk o b) = .dk false b := rfl
@[simp] theorem vw_dt {o : Bool} {b : List (List Key × D)} : vw (.dt o b) = .dt false b := rfl
@[simp] theorem vwOk_non : vwOk .non = true := rfl
@[simp] theorem vwOk_bl {b : Bool} : vwOk (.bl b) = true := rfl
@[simp] theorem vwOk_int {b : Int} : vwOk (.int b) = true := rfl
@[simp] theorem vwOk_str {b : Str} : vwOk (.str b) = true := rfl
@[simp] theorem vwOk_tup {b : List D} : vwOk (.tup b) = fzs b := rfl
@[simp] theorem vwOk_lst {o : Bool} {b : List D} : vwOk (.lst o b) = fzs b := rfl
@[simp] theorem vwOk_scr {b : List Int} : vwOk (.scr b) = true := rfl
@[simp] theorem vwOk_dk {o : Bool} {b : List (Key × D)} : vwOk (.dk o b) = true := rfl
@[simp] theorem vwOk_dt {o : Bool} {b : List (List Key × D)} : vwOk (.dt o b) = true := rfl
@[simp] theorem ad_int {a b : Int} : addD (.int a) (.int b) = some (.int (a + b)) := rfl
@[simp] theorem sb_int {a b : Int} : subD (.int a) (.int b) = some (.int (a - b)) := rfl
@[simp] theorem cm_int {f : Int → Int → Bool} {a b : Int} : cmpD f (.int a) (.int b) = some (.bl (f a b)) := rfl
theorem md_int {a b : Int} (h : 0 < b) : modD (.int a) (.int b) = some (.int (a % b)) := by
  show (if 0 < b then some (D.int (a % b)) else _) = _
  rw [if_pos h]
@[simp] theorem int_int {a : Int} : intD (.int a) = some (.int a) := rfl
@[simp] theorem abs_int {a : Int} : absD (.int a) = some (.int (if a < 0 then -a else a)) := rfl
@[simp] theorem len_tup {b : List D} : lenD (.tup b) = some (.int b.length) := rfl
@[simp] theorem len_lst {o : Bool} {b : List D} : lenD (.lst o b) = some (.int b.length) := rfl
@[simp] theorem len_scr {b : List Int} : lenD (.scr b) = some (.int b.length) := rfl
@[simp] theorem ix_tup {b : List D} {j : Int} : ixD (.tup b) (.int j) = atI b j := rfl
@[simp] theorem ix_lst {o : Bool} {b : List D} {j : Int} : ixD (.lst o b) (.int j) = atI b j := rfl
@[simp] theorem ix_scr {b : List Int} {j : Int} : ixD (.scr b) (.int j) = (atI b j).map .int := rfl
@[simp] theorem isN_non : isN .non = true := rfl
@[simp] theorem isN_bl {b : Bool} : isN (.bl b) = false := rfl
@[simp] theorem isN_int {b : Int} : isN (.int b) = false := rfl
@[simp] theorem isN_str {b : Str} : isN (.str b) = false := rfl
@[simp] theorem isN_tup {b : List D} : isN (.tup b) = false := rfl
@[simp] theorem isN_lst {o : Bool} {b : List D} : isN (.lst o b) = false := rfl
@[simp] theorem tru_bl {b : Bool} : truD (.bl b) = some b := rfl
@[simp] theorem tup_tup {b : List D} : tupleD (.tup b) = some (.tup b) := rfl
@[simp] theorem lst_tup {b : List D} : listD (.tup b) = some (.lst true b) := rfl
@[simp] theorem mx2_int {a b : Int} : max2D (.int a) (.int b) = some (.int (if b > a then b else a)) := rfl
@[simp] theorem mn2_int {a b : Int} : min2D (.int a) (.int b) = some (.int (if b < a then b else a)) := rfl
theorem mul_int {a b : Int} (h : mulOk a b = true) : mulD (.int a) (.int b) = some (.int (a * b)) := by
  show (if mulOk a b then some (D.int (a * b)) else none) = _
  rw [if_pos h]
theorem mulOk_r {a b : Int} (h : Nat.ble b.natAbs 18446744073709551615 = true) : mulOk a b = true := by
  unfold mulOk
  rw [h]
  simp
theorem mulOk_l {a b : Int} (h : Nat.ble a.natAbs 18446744073709551615 = true) : mulOk a b = true := by
  unfold mulOk
  rw [h]
  rfl
theorem div_int {a b : Int} (h0 : 0 < b) (h : divOk b = true) : fdivD (.int a) (.int b) = some (.int (a / b)) := by
  show (if 0 < b then (if divOk b = true then some (D.int (a / b)) else none) else _) = _
  rw [if_pos h0, if_pos h]
theorem divOk_s {b : Int} (h0 : 0 < b) (h : b < 1073741824) : divOk b = true := by
  unfold divOk
  simp only [Bool.or_eq_true, decide_eq_true_eq]
  left; omega
/-! ### what is written, what is passed -/
@[simp] theorem ap_set : mSet k oa m e = (m e).toS fun d e1 => match e1[k]? with
  | some (some _) => match oa.run e1 with
    | .ok p e2 => match p.see e2 (fun di e3 => match e3[k]? with
      | some (some d0) => match setD d0 di d with
        | some d1 => .ok .non (e3.set k (some d1))
        | none => .no
      | _ => .no) with
      | .ok _ e4 => .nx e4
      | _ => .no
    | .ex c d e2 => .ex c d e2
    | .no => .no
  | _ => .no := rfl
@[simp] theorem ap_app : mApp k m e = match e[k]? with
  | some (some (.lst true _)) => (m e).bind fun d e1 => match e1[k]? with
    | some (some (.lst true xs)) => if xs.length < LIM then .ok .non (e1.set k (some (.lst true (xs ++ [d])))) else .no
    | _ => .no
  | _ => .no := rfl
@[simp] theorem REb_ok {f : D → DEnv → RE} : (RE.ok d e).bind f = f d e := rfl
@[simp] theorem REb_ex {c : Nat} {f : D → DEnv → RE} : (RE.ex c d e).bind f = .ex c d e := rfl
@[simp] theorem REb_no {f : D → DEnv → RE} : RE.no.bind f = .no := rfl
@[simp] theorem mA_nil : mA [] e = .ok [] e := rfl
@[simp] theorem mA_t {r : List Ar} : mA (.t m :: r) e = match m e with
    | .ok d e1 => (mA r e1).cons (.t d)
    | .ex c d e1 => .ex c d e1
    | .no => .no := rfl
@[simp] theorem mA_l {j : Nat} {r : List Ar} : mA (.l j :: r) e = match e[j]? with
    | some (some _) => (mA r e).cons (.l j)
    | _ => .no := rfl
@[simp] theorem RAc_ok {a : PA1} {as : List PA1} : (RA.ok as e).cons a = .ok (a :: as) e := rfl
@[simp] theorem RAf_ok {as : List PA1} {f : List D → DEnv → RE} : (RA.ok as e).fin f = match allT as with
    | some ds => if ds.length ≤ LIM then f ds e else .no
    | none => .no := rfl
@[simp] theorem allT_nil : allT [] = some [] := rfl
@[simp] theorem allT_t {as : List PA1} : allT (.t d :: as) = (allT as).map (d :: ·) := rfl
@[simp] theorem ap_tup {as : List Ar} : mTup as e = (mA as e).fin fun ds e1 => .ok (.tup ds) e1 := rfl
@[simp] theorem ap_lst {as : List Ar} : mLst as e = (mA as e).fin fun ds e1 => .ok (.lst true ds) e1 := rfl
@[simp] theorem effD_nil : effD e [] = some [] := rfl
@[simp] theorem effD_t {as : List PA1} : effD e (.t d :: as) = (effD e as).map (d :: ·) := rfl
@[simp] theorem effD_l {j : Nat} {as : List PA1} : effD e (.l j :: as) = match e[j]? with
  | some (some d) => (effD e as).map (d :: ·)
  | _ => none := rfl
@[simp] theorem lents_nil : lents [] = [] := rfl
@[simp] theorem lents_t {as : List PA1} : lents (.t d :: as) = lents as := rfl
@[simp] theorem lents_l {j : Nat} {as : List PA1} : lents (.l j :: as) = j :: lents as := rfl
@[simp] theorem minus_nil : minus [] e = e := rfl
@[simp] theorem minus_t {as : List PA1} : minus (.t d :: as) e = minus as e := rfl
@[simp] theorem minus_l {j : Nat} {as : List PA1} : minus (.l j :: as) e = minus as (e.set j none) := rfl
@[simp] theorem bk_nil : bk [] [] [] e = some e := rfl
@[simp] theorem bk_l {ma : List Bool} {j : Nat} {as : List PA1} {fn : List D} : bk (true :: ma) (.l j :: as) (d :: fn) e = bk ma as fn (e.set j (some d)) := rfl
@[simp] theorem bk_t {ma : List Bool} {d1 : D} {as : List PA1} {fn : List D} : bk (true :: ma) (.t d1 :: as) (d :: fn) e = bk ma as fn e := rfl
@[simp] theorem bk_f {ma : List Bool} {d1 : D} {as : List PA1} {fn : List D} : bk (false :: ma) (.t d1 :: as) fn e = bk ma as fn e := rfl
@[simp] theorem ap_call {C : List D → RC} {ma : List Bool} {dfl : List D} {as : List Ar} : mCall C ma dfl as e = match mA as e with
  | .ok as e1 => match effD e1 as with
    | some ds => if (lents as).Nodup ∧ (as.length + dfl.length = ma.length) then match C (ds ++ dfl) with
      | .ok d fin => match bk ma (as ++ dfl.map .t) fin (minus as e1) with
        | some e2 => .ok d e2
        | none => .no
      | .ex c d fin => match bk ma (as ++ dfl.map .t) fin (minus as e1) with
        | some e2 => .ex c d e2
        | none => .no
      | .no => .no
      else .no
    | none => .no
  | .ex c d e1 => .ex c d e1
  | .no => .no := rfl
@[simp] theorem fins_nil : fins [] e = some [] := by cases e <;> rfl
@[simp] theorem fins_t {ma : List Bool} : fins (true :: ma) (some d :: e) = (fins ma e).map (d :: ·) := rfl
@[simp] theorem fins_f {ma : List Bool} : fins (false :: ma) e = fins ma e.tail := by cases e <;> rfl
@[simp] theorem ap_par {is : List Nat} {as : List Ar} : mPar is as e = match mA as e with
  | .ok as e1 => match allT as with
    | some ds => match puts (is.map CT.v) ds e1 with
      | some e2 => .nx e2
      | none => .no
    | none => .no
  | .ex c d e1 => .ex c d e1
  | .no => .no := rfl
@[simp] theorem put_v : put (.v i) d e = some (e.set i (some d)) := rfl
@[simp] theorem put_t {ts : List CT} {ds : List D} : put (.t ts) (.tup ds) e = puts ts ds e := rfl
@[simp] theorem puts_nil : puts [] [] e = some e := rfl
@[simp] theorem puts_cons {t : CT} {ts : List CT} {ds : List D} : puts (t :: ts) (d :: ds) e = (put t d e).bind fun e1 => puts ts ds e1 := rfl
@[simp] theorem set_lst {xs : List D} {j : Int} : setD (.lst true xs) (.int j) d = (ixN xs.length j).map fun j => .lst true (xs.set j d) := rfl
theorem callF_ok {N : Nat} {ma : List Bool} {b : MS} {ds : List D} (h : ds.length = ma.length ∧ ma.length ≤ N) : callF N ma b ds = match b (ds.map some ++ List.replicate (N - ma.length) none) with
    | .nx e => match fins ma e with
      | some f => .ok .non f
      | none => .no
    | .rt d e => match fins ma e with
      | some f => .ok d f
      | none => .no
    | .ex c d e => match fins ma e with
      | some f => .ex c d f
      | none => .no
    | _ => .no := by
  unfold callF
  rw [if_pos h]
  try rfl
@[simp] theorem LIM_is : LIM = 1000000 := rfl
@[simp] theorem RS_seq_no {f : DEnv → RS} : RS.no.seq f = .no := rfl
@[simp] theorem ap_for {Ls : List Nat} {tg : CT} {mi : MI} : mFor Ls tg mi ms e = match mi e with
  | .ok ds l e1 => if lkIn l Ls = true then (forL tg ms ds e1).unlk l else .no
  | .ex c d e1 => .ex c d e1
  | .no => .no := rfl
@[simp] theorem ap_while : mWhile t ms e = whileN t ms FUEL e := rfl
@[simp] theorem ap_lc {own : List Nat} {tg : CT} {mi : MI} : mLc own tg mi m n e = match mi e with
  | .ok ds l e1 => RE.unlk l (match lcL own tg m n ds [] (wipeE own e1) with
    | .ok acc e2 => .ok (.lst true acc) (backE e1 own e2)
    | .no => .no)
  | .ex c d e1 => .ex c d e1
  | .no => .no := rfl
@[simp] theorem ap_lc2 {own own1 : List Nat} {tg tg1 : CT} {mi mi1 : MI} : mLc2 own tg mi m own1 tg1 mi1 n t e = match mi e with
  | .ok ds l e1 => RE.unlk l (match lcL2 own tg m own1 tg1 mi1 n t ds [] (wipeE own e1) with
    | .ok acc e2 => .ok (.lst true acc) (backE e1 own e2)
    | .no => .no)
  | .ex c d e1 => .ex c d e1
  | .no => .no := rfl
@[simp] theorem ap_it : mIt m e = match m e with
  | .ok d e1 => match itemsD (frz d) with
    | some ds => .ok ds none e1
    | none => .no
  | .ex c d e1 => .ex c d e1
  | .no => .no := rfl
@[simp] theorem ap_itV : mItV k e = match e[k]? with
  | some (some (.lst true ds)) => if fzs ds = true then .ok ds (some (k, .lst true ds)) (e.set k none) else .no
  | some (some d) => match itemsD (frz d) with
    | some ds => if fz d = true then .ok ds none e else .no
    | none => .no
  | _ => .no := rfl
@[simp] theorem items_tup {ds : List D} : itemsD (.tup ds) = some ds := rfl
@[simp] theorem items_lst {o : Bool} {ds : List D} : itemsD (.lst o ds) = some ds := rfl
@[simp] theorem items_scr {ds : List Int} : itemsD (.scr ds) = some (ds.map .int) := rfl
@[simp] theorem ap_rg1 : mRg1 m e = match m e with
  | .ok (.int j) e1 => if rngOk j = true then .ok (rangeD 0 j) none e1 else .no
  | .ok _ _ => .no
  | .ex c d e1 => .ex c d e1
  | .no => .no := rfl
@[simp] theorem lk_none {Ls : List Nat} : lkIn none Ls = true := rfl
@[simp] theorem lk_some {Ls : List Nat} {j : Nat} : lkIn (some (j, d)) Ls = decide (j ∈ Ls) := rfl
@[simp] theorem RSu_none {r : RS} : r.unlk none = r := by cases r <;> rfl
@[simp] theorem REu_none {r : RE} : r.unlk none = r := by cases r <;> rfl
@[simp] theorem REu_ok {j : Nat} {d1 : D} : (RE.ok d e).unlk (some (j, d1)) = .ok d (e.set j (some d1)) := rfl
@[simp] theorem RSu_nx {j : Nat} {d1 : D} : (RS.nx e).unlk (some (j, d1)) = .nx (e.set j (some d1)) := rfl
@[simp] theorem RSu_rt {j : Nat} {d1 : D} : (RS.rt d e).unlk (some (j, d1)) = .rt d (e.set j (some d1)) := rfl
@[simp] theorem wipe_nil : wipeE [] e = e := rfl
@[simp] theorem wipe_cons {is : List Nat} : wipeE (i :: is) e = (wipeE is e).set i none := rfl
@[simp] theorem back_nil : backE e1 [] e = e := rfl
@[simp] theorem back_cons {is : List Nat} : backE e1 (i :: is) e = match e1[i]? with
    | some (some d) => if fz d = true then (backE e1 is e).set i (some d) else backE e1 is e
    | _ => backE e1 is e := rfl
@[simp] theorem ap_true : mTrue e = .ok (.bl true) e := rfl
@[simp] theorem rg_len {lo hi : Int} : (rangeD lo hi).length = (hi - lo).toNat := by
  unfold rangeD
  rw [List.length_map, List.length_range]
theorem rg_get {lo hi : Int} {k : Nat} {d : D} (h : (rangeD lo hi)[k]? = some d) : d = .int (lo + (k : Nat)) ∧ k < (hi - lo).toNat := by
  unfold rangeD at h
  rw [List.getElem?_map] at h
  by_cases hk : k < (hi - lo).toNat
  · rw [List.getElem?_range hk] at h
    injection h with h
    exact ⟨h.symm, hk⟩
  · rw [List.getElem?_eq_none (by simpa using hk)] at h; cases h
theorem rngOk_s {j : Int} (h1 : -1000000000 < j) (h2 : j < 1000000000) : rngOk j = true := by
  unfold rngOk
  exact Nat.ble_eq_true_of_le (by omega)
@[simp] theorem eq_int {a b : Int} : eqD (.int a) (.int b) = some (.bl (a == b)) := rfl
@[simp] theorem ne_int {a b : Int} : neD (.int a) (.int b) = some (.bl (!(a == b))) := rfl
@[simp] theorem isV_bl {b : Bool} : mAnd.isV (.bl b) = true := rfl
@[simp] theorem isV_non : mAnd.isV .non = true := rfl
@[simp] theorem isV_int {b : Int} : mAnd.isV (.int b) = true := rfl
@[simp] theorem ap_and : mAnd oa n e = match oa.run e with
  | .ok p e1 => p.see e1 fun d e2 => match truD d with
    | some true => n e2
    | some false => if mAnd.isV d = true then .ok d e2 else .no
    | none => .no
  | .ex c d e1 => .ex c d e1
  | .no => .no := rfl
@[simp] theorem ap_or : mOr oa n e = match oa.run e with
  | .ok p e1 => p.see e1 fun d e2 => match truD d with
    | some true => if mAnd.isV d = true then .ok d e2 else .no
    | some false => n e2
    | none => .no
  | .ex c d e1 => .ex c d e1
  | .no => .no := rfl
@[simp] theorem ap_tnot : mTNot m e = match m e with
  | .ok (.bl b) e1 => .ok (.bl (!b)) e1
  | .ok _ _ => .no
  | .ex c d e1 => .ex c d e1
  | .no => .no := rfl
@[simp] theorem ap_tand : mTAnd m n e = match m e with
  | .ok (.bl true) e1 => n e1
  | .ok (.bl false) e1 => .ok (.bl false) e1
  | .ok _ _ => .no
  | .ex c d e1 => .ex c d e1
  | .no => .no := rfl
@[simp] theorem ap_tor : mTOr m n e = match m e with
  | .ok (.bl true) e1 => .ok (.bl true) e1
  | .ok (.bl false) e1 => n e1
  | .ok _ _ => .no
  | .ex c d e1 => .ex c d e1
  | .no => .no := rfl
@[simp] theorem ap_not : mNot oa e = (oa.run e).bind fun p e1 => p.see e1 fun d e2 => RE.of ((truD d).map fun b => .bl (!b)) e2 := rfl
@[simp] theorem ap_zip2 : mZip2 m n e = match m e with
  | .ok d1 e1 => match n e1 with
    | .ok d2 e2 => match zipD (frz d1) (frz d2) with
      | some ds => .ok ds none e2
      | none => .no
    | .ex c d e2 => .ex c d e2
    | .no => .no
  | .ex c d e1 => .ex c d e1
  | .no => .no := rfl
@[simp] theorem zip_tup {xs ys : List D} : zipD (.tup xs) (.tup ys) = some (List.zipWith (fun x y => .tup [x, y]) xs ys) := rfl
@[simp] theorem is_tup {ds : List D} : isiD .tuple (.tup ds) = some true := rfl
@[simp] theorem is_tup_non : isiD .tuple .non = some false := rfl
@[simp] theorem is_tup_int {a : Int} : isiD .tuple (.int a) = some false := rfl
@[simp] theorem is_tup_bl {a : Bool} : isiD .tuple (.bl a) = some false := rfl
@[simp] theorem is_tup_str {a : Str} : isiD .tuple (.str a) = some false := rfl
@[simp] theorem is_tup_lst {o : Bool} {a : List D} : isiD .tuple (.lst o a) = some false := rfl
@[simp] theorem is_int_int {a : Int} : isiD .int (.int a) = some true := rfl
@[simp] theorem is_int_bl {a : Bool} : isiD .int (.bl a) = some true := rfl
@[simp] theorem is_int_str {a : Str} : isiD .int (.str a) = some false := rfl
@[simp] theorem is_int_non : isiD .int .non = some false := rfl
@[simp] theorem is_bool_int {a : Int} : isiD .bool (.int a) = some false := rfl
@[simp] theorem is_bool_bl {a : Bool} : isiD .bool (.bl a) = some true := rfl
@[simp] theorem is_str_str {a : Str} : isiD .str (.str a) = some true := rfl
@[simp] theorem isB_int {b : Bool} {a : Int} : isB b (.int a) = false := rfl
@[simp] theorem isB_bl {b a : Bool} : isB b (.bl a) = (a == b) := rfl
@[simp] theorem isB_str {b : Bool} {a : Str} : isB b (.str a) = false := rfl
@[simp] theorem isB_non {b : Bool} : isB b .non = false := rfl
/-- plain data of so many levels: tuples, whole numbers, None -/
def plD : Nat → D → Bool
  | _, .non => true
  | _, .int _ => true
  | n + 1, .tup ds => ds.all (plD n)
  | _, _ => false
theorem plD_fz : ∀ (n : Nat) {d : D}, plD n d = true → fz d = true
  | n, .non, _ => rfl
  | n, .int _, _ => rfl
  | 0, .tup ds, h => by simp [plD] at h
  | n + 1, .tup ds, h => by
    have h : ds.all (plD n) = true := h
    show fzs ds = true
    rw [fzs_all, List.all_eq_true]
    exact fun d hd => plD_fz n (List.all_eq_true.mp h d hd)
  | n, .bl _, h => by cases n <;> simp [plD] at h
  | n, .str _, h => by cases n <;> simp [plD] at h
  | n, .lst _ _, h => by cases n <;> simp [plD] at h
  | n, .scr _, h => by cases n <;> simp [plD] at h
  | n, .dk _ _, h => by cases n <;> simp [plD] at h
  | n, .dt _ _, h => by cases n <;> simp [plD] at h
  | n, .fn _, h => by cases n <;> simp [plD] at h
/-! ### loops -/
/-- what one turn asks -/
def stP (N : DEnv → Prop) (R : RS → Prop) : RS → Prop
  | .nx e => N e
  | .ct e => N e
  | .bk e => R (.nx e)
  | .rt d e => R (.rt d e)
  | .ex c d e => R (.ex c d e)
  | .no => False
@[simp] theorem stP_nx {N : DEnv → Prop} {R : RS → Prop} : stP N R (.nx e) = N e := rfl
@[simp] theorem stP_ct {N : DEnv → Prop} {R : RS → Prop} : stP N R (.ct e) = N e := rfl
@[simp] theorem stP_bk {N : DEnv → Prop} {R : RS → Prop} : stP N R (.bk e) = R (.nx e) := rfl
@[simp] theorem stP_rt {N : DEnv → Prop} {R : RS → Prop} : stP N R (.rt d e) = R (.rt d e) := rfl
@[simp] theorem stP_ex {N : DEnv → Prop} {R : RS → Prop} {c : Nat} : stP N R (.ex c d e) = R (.ex c d e) := rfl
@[simp] theorem stP_no {N : DEnv → Prop} {R : RS → Prop} : stP N R .no = False := rfl
def stO (N : DEnv → Prop) : Option DEnv → Prop
  | some e => N e
  | none => False
@[simp] theorem stO_some {N : DEnv → Prop} : stO N (some e) = N e := rfl
@[simp] theorem stO_none {N : DEnv → Prop} : stO N none = False := rfl
def stE (N : D → DEnv → Prop) : RE → Prop
  | .ok d e => N d e
  | _ => False
@[simp] theorem stE_ok {N : D → DEnv → Prop} : stE N (.ok d e) = N d e := rfl
@[simp] theorem stE_no {N : D → DEnv → Prop} : stE N .no = False := rfl
def stB (N : Bool → DEnv → Prop) : RE → Prop
  | .ok (.bl b) e => N b e
  | _ => False
@[simp] theorem stB_ok {N : Bool → DEnv → Prop} {b : Bool} : stB N (.ok (.bl b) e) = N b e := rfl
@[simp] theorem stB_no {N : Bool → DEnv → Prop} : stB N .no = False := rfl
theorem forL_rule {tg : CT} {m : MS} (R : RS → Prop) : ∀ {ds : List D} (I : Nat → DEnv → Prop) {e : DEnv}, I 0 e →
    (∀ k d e, ds[k]? = some d → I k e → stO (fun e1 => stP (I (k + 1)) R (m e1)) (put tg d e)) →
    (∀ e, I ds.length e → R (.nx e)) → R (forL tg m ds e)
  | [], I, e, h0, _, hd => hd e h0
  | d :: ds, I, e, h0, hs, hd => by
    have h := hs 0 d e rfl h0
    unfold forL
    cases q : put tg d e with
    | none => rw [q] at h; exact h.elim
    | some e1 =>
      rw [q] at h
      have h : stP (I (0 + 1)) R (m e1) := h
      have rest : ∀ e2, I (0 + 1) e2 → R (forL tg m ds e2) := fun e2 h3 => forL_rule R (fun k => I (k + 1)) h3 (fun k d' e' hk hi => hs (k + 1) d' e' hk hi) fun e' hi => hd e' hi
      simp only
      cases q2 : m e1 <;> rw [q2] at h <;> first | exact rest _ h | exact h | exact h.elim
theorem lcL_rule {own : List Nat} {tg : CT} {cond elt : ME} : ∀ {ds : List D} (I : Nat → List D → DEnv → Prop) {acc : List D} {e : DEnv}, I 0 acc e →
    (∀ k d acc e, ds[k]? = some d → I k acc e → stO (fun e1 => stB (fun b e2 => if b = true then stE (fun y e3 => acc.length < LIM ∧ I (k + 1) (acc ++ [y]) (wipeE own e3)) (elt e2) else I (k + 1) acc (wipeE own e2)) (cond e1)) (put tg d e)) →
    ∃ acc' e', lcL own tg cond elt ds acc e = .ok acc' e' ∧ I ds.length acc' e'
  | [], I, acc, e, h0, _ => ⟨acc, e, rfl, h0⟩
  | d :: ds, I, acc, e, h0, hs => by
    have h := hs 0 d acc e rfl h0
    unfold lcL
    cases q : put tg d e with
    | none => rw [q] at h; exact h.elim
    | some e1 =>
      rw [q] at h
      rw [stO_some] at h
      simp only
      cases q2 : cond e1 with
      | ok dc e2 =>
        rw [q2] at h
        cases dc with
        | bl b =>
          rw [stB_ok] at h
          cases b with
          | true =>
            rw [if_pos rfl] at h
            simp only
            cases q3 : elt e2 with
            | ok y e3 =>
              rw [q3, stE_ok] at h
              simp only
              rw [if_pos h.1]
              exact lcL_rule (fun k => I (k + 1)) h.2 fun k d' acc' e' hk hi => hs (k + 1) d' acc' e' hk hi
            | ex c d e3 => rw [q3] at h; exact h.elim
            | no => rw [q3] at h; exact h.elim
          | false =>
            rw [if_neg Bool.false_ne_true] at h
            exact lcL_rule (fun k => I (k + 1)) h fun k d' acc' e' hk hi => hs (k + 1) d' acc' e' hk hi
        | _ => exact h.elim
      | ex c d e2 => rw [q2] at h; exact h.elim
      | no => rw [q2] at h; exact h.elim
theorem whileN_rule {t : ME} {m : MS} (R : RS → Prop) (I : Nat → DEnv → Prop)
    (hs : ∀ μ e, I μ e → stB (fun b e1 => if b = true then stP (fun e2 => ∃ μ', μ' < μ ∧ I μ' e2) R (m e1) else R (.nx e1)) (t e)) :
    ∀ (n μ : Nat) (e : DEnv), I μ e → μ < n → R (whileN t m n e)
  | 0, _, _, _, h => absurd h (Nat.not_lt_zero _)
  | n + 1, μ, e, hi, hn => by
    have h := hs μ e hi
    unfold whileN
    cases q : t e with
    | ok dc e1 =>
      rw [q] at h
      cases dc with
      | bl b =>
        rw [stB_ok] at h
        cases b with
        | true =>
          rw [if_pos rfl] at h
          simp only
          have rest : ∀ e2, (∃ μ', μ' < μ ∧ I μ' e2) → R (whileN t m n e2) := fun e2 ⟨μ', h3, h4⟩ => whileN_rule R I hs n μ' e2 h4 (by omega)
          cases q2 : m e1 <;> rw [q2] at h <;> first | exact rest _ h | exact h | exact h.elim
        | false => exact h
      | _ => exact h.elim
    | ex c d e1 => rw [q] at h; exact h.elim
    | no => rw [q] at h; exact h.elim
theorem env4 {e : DEnv} (h : e.length = 4) : ∃ a b c d, e = [a, b, c, d] := by
  match e, h with
  | [a, b, c, d], _ => exact ⟨a, b, c, d, rfl⟩
end
end EV

/-! EvU: an own exception whose __init__ says super().__init__(text) and self.f = x: made by C(x). -/
namespace EV
open PySem PySem.Spec PyProof.Rows L2 PySem.W

/-- the body of such an __init__ -/
def supBody (ms pf fl : Str) (pa pb pc pd pe pg ph pi pj pk : Pos) (tn : Nat) : List Stmt :=
  [.Expr (.Call (.Attribute (.Call (.Name "super" pa) [] [] pb) "__init__" pc) [.Constant (.str ms) tn pd] [] pe) pg,
   .Assign [.Attribute (.Name "self" ph) fl pi] (.Name pf pj) pk]
/-- its scope -/
abbrev supScope (pf : Str) : Scope := { kind := .function, names := [("self", .local), (pf, .local), ("__class__", .free), ("super", .globalImplicit)], isGenerator := false, isCoroutine := false, more := [] }
section
open PySem.Calls PySem.HandSPX
variable {prog : Program} {w : World} {A : Around} {E : Value → Shared → Prop} {h : Heap} {g : Array GenState} {d : Drawn} {t : Nat} {os : OsState}
variable {nm q : Str} {C N : Addr} {bs bm : List Value} {hdct : Bool} {sn : List Str} {sub : List Value} {ab : Bool} {col : Option Bool} {dd : Option Addr} {k0 k1 k2 k3 k5 : Option Value}
theorem call_mw {u e t0 : Addr} {rest : List Value} {Q : Value → Shared → Prop}
    (hC : h.get? C = some (excClassObj nm q C N bs bm hdct sn sub ab col dd k0 k1 k2 k3 k5 "ValueError.__new__")) (he : h.get? e = some (HandSPX.excO C t0)) (hu : h.get? u = some (kxs_mw "ValueError.__init__" e)) (hrest : rest.length ≤ sizeLine)
    (hq : ∀ h' t1, (∀ b o, b ≠ e → h.get? b = some o → h'.get? b = some o) → h'.get? e = some (HandSPX.excO C t1) → Q .none ⟨h', g, d, t, os⟩) :
    wpAny (model prog w) A (call (.ref u) rest) Q E ⟨h, g, d, t, os⟩ := by
  refine wpAny_call (codeAny_of_tree ?_)
  show wpAny _ A.in1 (callAny (.ref u) ⟨rest, []⟩) _ _ _
  simp only [callAny]
  refine wpAny_bind (wpAny_load hu ?_)
  simp only [kxs_mw, show (Value.type "method-wrapper" == Value.type "method" || Value.type "method-wrapper" == Value.type "builtin_function_or_method" || Value.type "method-wrapper" == Value.type "method-wrapper") = true by decide, if_true]
  refine W.KFB.if_so (by decide) ?_
  refine wpAny_bind (ESX.check_bound F.excBase_ValueError hC he rfl ?_)
  refine wpAny_bind (wpAny_pure (wpAny_pure ?_))
  refine ⟨Code.quiet_builtin _ (by decide +kernel), codeAny_builtin F.excBase_ValueError.initEntry ?_⟩
  rw [Around.under_plainId F.excBase_ValueError.init.plain _]
  wp_walk
  refine hq _ h.objs.size (fun b o hb ho => ?_) ?_
  · rw [Heap.get?_update_other _ _ (Ne.symm hb)]
    exact Heap.get?_push_of_some _ ho
  · rw [Heap.get?_update_self _ (Heap.get?_push_of_some _ he) rfl]
    rfl
end
section
open PySem.Calls
variable {prog : Program} {w : World} {A : Around} {R : Result → Shared → Prop} {K : Frag} {mg mb : Str → Option Value} {h : Heap} {g : Array GenState} {d : Drawn} {t : Nat} {os : OsState}
theorem init_sup {x C fI cc cda t0 : Addr} {v : Value} {ms pf fl qual file : Str} {pa pb pc pd pe pg ph pi pj pk : Pos} {tn : Nat} {params : Arguments} {dV kV doc pm ct oc ccl cl : Value} {an od cdd cld : Option Addr} {osl ccs csl : Array (Option Value)} {vs : Array Value} {tf : Tok} {ar : Arg} {cdD : ClassData}
    (room : A.depth < recursionLimit) (XK : K.In h) (hg : h.Ns mainGlobals mg) (hms : mg "super" = none) (hb : h.Ns builtinsNs mb) (hbb : ∀ x : Str, x ≠ "__name__" → mb x = bootBuiltins x) (hlim : h.NoLimit)
    (hx : h.get? x = some (HandSPX.excO C t0)) (hnK : K.lookup x = none) (T : OexC K C)
    (hf : K.lookup fI = some ⟨oc, od, .func (ksFn "__init__" qual params (supBody ms pf fl pa pb pc pd pe pg ph pi pj pk tn) (supScope pf) dV kV doc pm an (.ref cda) ct cc), osl⟩) (hcd : codeIn K (.ref cda) qual = true)
    (hcode : K.lookup cda = some ⟨ccl, cdd, .fields vs, ccs⟩) (hvs : vs[2]? = some (.str file tf)) (hfile : ((prog.main.file : Str) == file) = true) (hcell : K.lookup cc = some ⟨cl, cld, .cell (some (.ref C)), csl⟩)
    (hD : clsIn K C = some cdD) (hsub : mroIn K C (.ref C) = some true) (hp : (params.posonlyargs ++ params.args).head? = some ar) (har : ar.arg = "self") (hpf : (pf == ("self" : Str)) = false)
    (hbind : ∀ s : Shared, BindsTo s (ksFn "__init__" qual params (supBody ms pf fl pa pb pc pd pe pg ph pi pj pk tn) (supScope pf) dV kV doc pm an (.ref cda) ct cc) ⟨[.ref x, v], []⟩ [("self", .ref x), (pf, v)])
    (hks : (supScope pf).names.lookup ("super" : Str) = some .globalImplicit) (hkc : (supScope pf).names.lookup ("__class__" : Str) = some .free) (hkp : (supScope pf).names.lookup pf = some .local)
    (htop : (prog.main.scope.names.lookup ("super" : Str)).isSome = false) (ho : nsIn K cStatics "thirdparty.any" = some none) (hm : ks_superIn K C C "__init__" = some (some (.builtin "ValueError.__init__")))
    (hB : subIn K (.ref C) (.type "ValueError") = some true) (hei : excInitIn K C PySem.HandSPX.veTail "ValueError.__new__" = true) (hno : findIn K (.ref C) fl = some none) (hpd : (pf == ("__debug__" : Str)) = false) (hline : (pc.endLine == pe.line) = true)
    (hq : ∀ h' t1 dx tk', (∀ b o, b ≠ x → h.get? b = some o → h'.get? b = some o) → h.objs.size ≤ dx → dx ≠ x → h'.get? x = some { cls := .ref C, dict := some dx, data := .fields #[.ref t1, .none, .none, .none, .bool false, .none] } →
      h'.Ns1 dx (fun y => if y = fl then some v else none) → R (.ok (.ret .none)) ⟨h', g, d, tk', os⟩) :
    codeAny (model prog w) A (.call (.ref fI) ⟨[.ref x, v], []⟩) R ⟨h, g, d, t, os⟩ := by
  obtain ⟨oD, hD1, hD2⟩ : ∃ oD, h.get? C = some oD ∧ oD.data = .cls cdD := by
    unfold clsIn at hD
    split at hD
    · rename_i c d cd' sl ho
      cases hD
      exact ⟨_, XK _ _ ho, rfl⟩
    · cases hD
  refine ks_codeAny_call_defAt room (XK _ _ hf) rfl hlim (codeRec_of XK hcd) rfl (hbind _) (by simp [supScope]) (fun y hy => ?_) (fun h₁ hns hk₁ => ?_) 
  · simp only [List.mem_cons, List.not_mem_nil, or_false] at hy
    rcases hy with rfl | rfl
    · exact rfl
    · exact hkp
  have X1 : K.In h₁ := XK.keeps hk₁
  show _root_.PySem.wpAt (model prog w) (A.deeper (ksEnv qual (supScope pf) h.objs.size fI (.ref cda) cc)) (.func _ (ksEnv qual (supScope pf) h.objs.size fI (.ref cda) cc)) (execs (supBody ms pf fl pa pb pc pd pe pg ph pi pj pk tn) (ksEnv qual (supScope pf) h.objs.size fI (.ref cda) cc)) _ _ _
  generalize hAA : A.deeper (ksEnv qual (supScope pf) h.objs.size fI (.ref cda) cc) = AA
  have he : eval (.Call (.Attribute (.Call (.Name "super" pa) [] [] pb) "__init__" pc) [.Constant (.str ms) tn pd] [] pe) (ksEnv qual (supScope pf) h.objs.size fI (.ref cda) cc) = (do
      let ov ← attributeBase (.Call (.Name "super" pa) [] [] pb) "__init__" (ksEnv qual (supScope pf) h.objs.size fI (.ref cda) cc) (eval (.Call (.Name "super" pa) [] [] pb) (ksEnv qual (supScope pf) h.objs.size fI (.ref cda) cc))
      standAt pc.atName
      let (f, first) ← holding [ov] (getMethod ov "__init__" (pure false))
      callWith pe f first (backTo pe (starEach [.Constant (.str ms) tn pd] (ksEnv qual (supScope pf) h.objs.size fI (.ref cda) cc))) []) := by
    rw [arm_eval_Call]
    congr 1; funext ov; congr 1; funext _
    have hpos : methodCallPos true (.Call (.Name "super" pa) [] [] pb) (ksEnv qual (supScope pf) h.objs.size fI (.ref cda) cc) pc pe = pure pe := by unfold methodCallPos; simp [hline]
    unfold methodCall
    show (holding [ov] (calleeOf true _ _ ov "__init__") >>= fun p => methodCallPos true _ _ pc pe >>= fun cp => callWith cp p.1 p.2 _ _) = _
    rw [hpos]
    rfl
  refine ks_wpAt_execs_cons (ks_wpAt_Expr_any (ks_wpAt_MethodCall (he := he) (ks_wpAt_super_base (env := ksEnv qual (supScope pf) h.objs.size fI (.ref cda) cc) hks hkc rfl rfl (X1 _ _ hf) rfl hp rfl (X1 _ _ hcode) rfl hvs hfile htop ?_)))
  · refine ks_loadName_global rfl hks (loadGlobal_builtin (env := ksEnv qual (supScope pf) h.objs.size fI (.ref cda) cc) (hg.keeps hk₁) hms (hb.keeps hk₁) ((hbb _ (by decide +kernel)).trans (by rfl)) ⟨rfl, ?_⟩)
    refine wpAny_loadName_free rfl hkc rfl ⟨_, X1 _ _ hcell, rfl⟩ ?_
    rw [har]
    refine wpAny_loadName_local (v := .ref x) rfl rfl hns ?_ ?_
    · show List.lookup ("self" : Str) [(pf, v), (("self" : Str), .ref x)] = _
      rw [List.lookup_cons, (show (("self" : Str) == pf) = false from by rw [BEq.comm]; exact hpf)]
      rfl
    refine ks_wpAny_isType_cls (hk₁ _ _ hD1) hD2 ⟨rfl, ?_⟩
    have hx1 := hk₁ _ _ hx
    refine ks_wpAny_call_super (hk₁ _ _ hD1) hD2 hx1 rfl (fun c e => by cases e) (looks_mroIn X1 hsub) (fun h₂ e₂ k₂ => ?_)
    have X2 : K.In h₂ := X1.keeps k₂
    have hx2 := k₂ _ _ hx1
    have IA : InstAt h₂ x (HandSPX.excO C t0) C none := ⟨hx2, rfl, rfl, trivial⟩
    have nxC : x ≠ C := fun e => by
      rw [e, hD1] at hx
      cases hx
      cases hD2
    refine kxs_getMethod kxs_ValueError e₂ (looks_opaque X2 ho) (l₀ := cdD.mro) (fun A Q E s k q => wpAny_bind ((looks_clsIn X2 hD) A _ E s k (wpAny_pure q))) rfl X2 ?_ (IA.type.andThen (looks_subIn X2 hB)) nxC rfl ?_
    · unfold ks_superIn at hm
      rw [hD] at hm
      exact hm
    have k3 : ∀ b o, h₂.get? b = some o → (h₂.push (kxs_mw "ValueError.__init__" x)).get? b = some o := fun b o e => Heap.get?_push_of_some _ e
    have hu : (h₂.push (kxs_mw "ValueError.__init__" x)).get? h₂.objs.size = some (kxs_mw "ValueError.__init__" x) := Heap.get?_push_at rfl rfl
    refine kxs_callWith (i := "ValueError.__init__") (x := x) rfl (evalArgs_plain (spliced_more (Constant_str (spliced_none ⟨hu, ?_⟩))))
    obtain ⟨nm, q, N, bs, bm, sn, sub, ab, col, dd, k0, k1, k2, k3', k5, hC, hbm⟩ := T.cls
    refine call_mw (k3 _ _ (X2 _ _ hC)) (k3 _ _ hx2) hu (by rw [sizeLine_eq]; show (1 : Nat) ≤ _; decide) (fun h₃ t1 e₃ hx3 => ?_)
    have X3 : K.In h₃ := fun b o e => e₃ b o (fun z => by
      rw [z, hnK] at e
      cases e) (k3 _ _ (X2 _ _ e))
    have xL : h.objs.size ≠ x := fun z => by
      have := Heap.lt_size hx
      rw [← z] at this
      exact absurd this (Nat.lt_irrefl _)
    have ns3 : h₃.Ns h.objs.size (fun y => List.lookup y ([((("self" : Str)), Value.ref x), (pf, v)] : List (Str × Value)).reverse) := ((hns.keeps k₂).keeps k3).at fun o e => e₃ _ o xL e
    have hcl2 : cdD = { name := nm, bases := bs, mro := .ref C :: bm, ns := N, qualname := q, hasDict := true, slotNames := sn, subclasses := sub, abstract := ab, collection := col, hasDel := false } := by
      have e : clsIn K C = some { name := nm, bases := bs, mro := .ref C :: bm, ns := N, qualname := q, hasDict := true, slotNames := sn, subclasses := sub, abstract := ab, collection := col, hasDel := false } := by unfold clsIn; rw [hC] <;> rfl
      rw [hD] at e
      exact Option.some.inj e
    have hsz : h.objs.size ≤ h₃.objs.size := by
      obtain ⟨oL, es, ep, hL, _⟩ := id ns3
      exact Nat.le_of_lt (Heap.lt_size hL)
    have kk : ∀ b o, b ≠ x → h.get? b = some o → h₃.get? b = some o := fun b o hb e => e₃ b o hb (k3 _ _ (k₂ _ _ (hk₁ _ _ e)))
    show _root_.PySem.wpAt _ _ _ (execs _ _) _ _ _
    refine ks_wpAt_execs_cons (ks_wpAt_Assign_Attr (wpAt_of_wpAny (wpAny_Name (wpAny_loadName_local (v := v) rfl hkp ns3 ?_ ?_) hpd)) rfl)
    · show List.lookup pf [(pf, v), (("self" : Str), .ref x)] = _
      rw [List.lookup_cons, beq_self_eq_true]
    refine wpAny_Name (wpAny_loadName_local (v := .ref x) rfl rfl ns3 ?_ ?_) rfl
    · show List.lookup ("self" : Str) [(pf, v), (("self" : Str), .ref x)] = _
      rw [List.lookup_cons, (show (("self" : Str) == pf) = false from by rw [BEq.comm]; exact hpf)]
      rfl
    refine set_plain X3 (ox := HandSPX.excO C t1) (od := none) ⟨hx3, rfl, rfl, trivial⟩ T.sa ?_
    refine HandSPX.exc_osa X3 hx3 hD ?_ ?_ hno (fun h₄ tk' dx k4 dn dne hx4 hn4 => ?_)
    · rw [hcl2]; exact hbm
    · rw [hcl2]
    refine wpAt_of_wpAny (wpAny_pure ?_)
    refine hq h₄ t1 dx tk' (fun b o hb e => k4 b o hb (kk b o hb e)) (Nat.le_trans hsz dn) dne hx4 hn4
end
end EV

/-! EvV: such a class, its exceptions made. -/
namespace EV
open PySem PySem.Spec PyProof.Rows L2 PySem.W

/-- what the written part says of the class at C: C(v) makes an exception whose field fl is v -/
structure SupC (prog : Program) (w : World) (K : Frag) (C : Addr) (fl : Str) : Prop where
  oex : OexC K C
  ini : ∃ fI, findIn K (.ref C) "__init__" = some (some (.ref fI)) ∧ typeIn K (.ref fI) = some (.type "function") ∧
    ∀ {A : Around} {R : Result → Shared → Prop} {mg mb : Str → Option Value} {h : Heap} {g : Array GenState} {d : Drawn} {t : Nat} {os : OsState} {x t0 : Addr} {v : Value},
      A.depth < recursionLimit → K.In h → h.Ns mainGlobals mg → mg "super" = none → h.Ns builtinsNs mb → (∀ x : Str, x ≠ "__name__" → mb x = bootBuiltins x) → h.NoLimit → h.get? x = some (HandSPX.excO C t0) → K.lookup x = none →
      (∀ h' t1 dx tk', (∀ b o, b ≠ x → h.get? b = some o → h'.get? b = some o) → h.objs.size ≤ dx → dx ≠ x → h'.get? x = some { cls := .ref C, dict := some dx, data := .fields #[.ref t1, .none, .none, .none, .bool false, .none] } →
        h'.Ns1 dx (fun y => if y = fl then some v else none) → R (.ok (.ret .none)) ⟨h', g, d, tk', os⟩) →
      codeAny (model prog w) A (.call (.ref fI) ⟨[.ref x, v], []⟩) R ⟨h, g, d, t, os⟩
def tMkS (C : Addr) (fl : Str) (te : TE) : L2.St → Hp → XK → Prop := fun σ H Q => te σ H fun v H1 => ∀ d, H1 d = none → Q (.ref C) (some d) (upd H1 d (.xd [(fl, v)]))
section
variable {X : Cx} {x fl : Str} {C : Addr} {e : Expr} {te : TE} {p pos : Pos} {k : Nat}
theorem pmk_sup (S : SupC X.prog X.w X.K C fl) (hr : Room (k + 1) X.A) (hg : Gl X x) (hm : X.mg x = some (.ref C)) (hms : X.mg "super" = none) (he1 : PE X e te)
    (hdb : (x == ("__debug__" : Str)) = false := by decide) (he : starEach [e] X.env = (false, eval e X.env) :: starEach [] X.env := by rfl) (hpl : (backTo pos (starEach [] X.env)).any (·.1) = false := by rfl) :
    PMk X (.Call (.Name x p) [e] [] pos) (tMkS C fl te) := by
  intro pins s σ H Q I h
  have T := S.oex
  obtain ⟨fI, iC, tI, run⟩ := S.ini
  obtain ⟨nm, q, N, bs, bm, sn, sub, ab, col, dd, k0, k1, k2, k3, k5, hC, hbm⟩ := T.cls
  refine wpAny_Call_Name_kw (ld_glob I hg hm ?_ hdb)
  have ha := pa_cons (X := X) he1 pa_nil he
  have h' : tCons te tNil σ H (fun vs H1 => match vs with | [y] => ∀ d, H1 d = none → Q (.ref C) (some d) (upd H1 d (.xd [(fl, y)])) | _ => False) := h
  refine PySem.W.callWith_K (h₀ := X.base) I.ok.mod.kin T.kC (thn (ha.run pos pins s σ H _ I h') fun us s1 ⟨vs, H1, I1, r1, q1⟩ => ⟨I1.kIn, ?_⟩) he hpl
  obtain ⟨y, ev⟩ : ∃ y, vs = [y] := by
    match vs, q1 with
    | [y], _ => exact ⟨y, rfl⟩
  subst ev
  cases r1 with
  | @cons _ u0 _ ur ra rw' =>
  cases rw'
  show wpAny _ _ (call (.ref C) [u0]) _ _ _
  obtain ⟨hp, g, dr, tk, os⟩ := s1
  have hsz : hp.objs.size ≤ hp.objs.size + 1 := Nat.le_succ _
  have kk : ∀ b o, hp.get? b = some o → ((hp.push (PySem.W.kdv_tup [u0])).push (PySem.HandSPX.excO C hp.objs.size)).get? b = some o := fun b o e => Heap.get?_push_of_some _ (Heap.get?_push_of_some _ e)
  have hget : ((hp.push (PySem.W.kdv_tup [u0])).push (PySem.HandSPX.excO C hp.objs.size)).get? (hp.objs.size + 1) = some (PySem.HandSPX.excO C hp.objs.size) := by heap_get
  have I2 : Inv X pins σ (upd H1 (hp.objs.size + 1) (exo (hp.objs.size + 1) C none)) ⟨(hp.push (PySem.W.kdv_tup [u0])).push (PySem.HandSPX.excO C hp.objs.size), g, dr, tk, os⟩ :=
    I1.laid (t' := tk) (a := hp.objs.size + 1) (o := exo (hp.objs.size + 1) C none) (h' := (hp.push (PySem.W.kdv_tup [u0])).push (PySem.HandSPX.excO C hp.objs.size)) kk hsz (exo_ok hget)
  obtain ⟨mb, hb1, hb2⟩ := I.mod.blt
  have bk2 := I2.bk
  refine wpAny_call (PySem.HandSPX.call_own F.excBase_ValueError (fun Y => PySem.HandSPX.refsVE_contains Y bm hbm) (I1.kIn _ _ hC) (PySem.W.looks_findIn I1.kIn iC) (fun self => PySem.W.bind_fn I1.kIn self tI) (by rw [sizeLine_eq]; show (1 : Nat) ≤ _; decide)
    (run ?_ I2.kIn (I.mod.glob.keeps bk2) hms (hb1.keeps bk2) hb2 (I.mod.nolimit.keeps bk2) hget ?_ fun h' t1 dx tk' kx dn dne hx hns => ⟨rfl, mk_end (raises_own T.exC T.tyC) I1 hsz kk (H2 := upd (upd (upd H1 (hp.objs.size + 1) (exo (hp.objs.size + 1) C none)) dx (exd dx [(fl, y)])) (hp.objs.size + 1) (exo (hp.objs.size + 1) C (some dx))) (d := dx) (fs := [(fl, y)]) ?_ ?_ rfl I1.bare ?_ ?_ ?_ ?_⟩))
  · have := (hr.make C [u0] []).dp
    omega
  · cases z : X.K.lookup (hp.objs.size + 1) with
    | none => rfl
    | some o =>
      have := Heap.lt_size (I1.kIn _ _ z)
      exact absurd this (by show ¬ (hp.objs.size + 1 < hp.objs.size); omega)
  all_goals try have na : hp.objs.size ≤ hp.objs.size + 1 := Nat.le_succ _
  all_goals generalize hP : (hp.push (PySem.W.kdv_tup [u0])).push (PySem.HandSPX.excO C hp.objs.size) = P at *
  all_goals generalize hA : hp.objs.size + 1 = a at *
  · have e : (upd H1 a (exo a C none)) a = some (exo a C none) := upd_same
    have hnd : (upd H1 a (exo a C none)) dx = none := I2.hok.fresh dn
    have nd : ∀ {b : Addr} {o : Obj}, P.get? b = some o → b ≠ dx := fun {b o} q => Nat.ne_of_lt (Nat.lt_of_lt_of_le (Heap.lt_size q) dn)
    have nA : ∀ {b : Addr}, (upd H1 a (exo a C none)) b = none → b ≠ a := fun {b} n z => by
      rw [z, e] at n
      cases n
    exact {
      keep := fun b o q n _ _ => kx b o (nA n) q
      slot := fun b o q n _ _ => ⟨o.slots, kx b o (nA n) q⟩
      free := fun b o q n _ => by rw [upd_ne (nA n), upd_ne (nd q)]; exact n
      there := fun b o q _ => by
        by_cases hb : b = a
        · exact ⟨_, by rw [hb]; exact hx⟩
        · exact ⟨o, kx b o hb q⟩
      tups := fun b xs q => by rw [upd_ne (at_ne e q exo_tup), upd_ne (ne_of_none q hnd)]; exact q
      frzs := fun b o v q => by rw [upd_ne (at_ne e q exo_frz), upd_ne (ne_of_none q hnd)]; exact q
      tbls := fun b ps q => ⟨#[], by rw [upd_ne (at_ne e q exo_tbl), upd_ne (ne_of_none q hnd), q]; simp⟩ }
  · have e : (upd H1 a (exo a C none)) a = some (exo a C none) := upd_same
    have hnd : (upd H1 a (exo a C none)) dx = none := I2.hok.fresh dn
    intro b o q
    by_cases hb : b = a
    · subst hb
      rw [upd_same] at q
      cases q
      exact exo_ok hx
    · rw [upd_ne hb] at q
      by_cases hd : b = dx
      · subst hd
        rw [upd_same] at q
        cases q
        exact exd_ok hns (relO_put (fs := []) ra fun g => True.intro)
      · rw [upd_ne hd] at q
        exact (I2.hok b o q).stay (fun c v hc z => kx c v (by
            rcases hc with hc | hc
            · rw [hc]
              exact hb
            · exact at_ne e hc exo_own) z)
          (fun c hc => by rw [upd_ne (at_ne e hc exo_own), upd_ne (ne_of_none hc hnd)]; exact hc) (fun c xs hc => by rw [upd_ne (at_ne e hc exo_tup), upd_ne (ne_of_none hc hnd)]; exact hc)
  · exact upd_same
  · rw [upd_ne dne, upd_same]
  · have hnd : (upd H1 a (exo a C none)) dx = none := I2.hok.fresh dn
    rw [upd_ne dne] at hnd
    exact hnd
  · have hnd : (upd H1 a (exo a C none)) dx = none := I2.hok.fresh dn
    rw [upd_ne dne] at hnd
    have hna : H1 a = none := I1.hok.fresh hsz
    have := q1 dx hnd
    refine Eq.mp (congrArg (Q (.ref C) (some dx)) ?_) this
    funext b
    by_cases hd : b = dx
    · rw [hd, upd_same, upd_same]
    · rw [upd_ne hd, upd_ne hd]
      by_cases hb : b = a
      · rw [hb, del_same, hna]
      · rw [del_ne hb, upd_ne hb, upd_ne hd, upd_ne hb]
end
end EV

/-! EvW: raise C(x), try .. except C. -/
namespace EV
open PySem PySem.Spec PyProof.Rows L2

/-- a class of exceptions by number: what the written part says -/
structure ExK (prog : Program) (w : World) (K : PySem.W.Frag) (mg : Str → Option Value) (g : GF) (c : Nat) (x : Str) : Prop where
  sup : SupC prog w K (g.ca c) (g.xn c)
  mg : mg x = some (.ref (g.ca c))
  xf : XfC K (g.ca c)
  no : PySem.W.findIn K (.ref (g.ca c)) (g.xn c) = some none
section
variable {X : Cx} {N : List Str} {sc : Scope} {fr : List Str} {g : GF} {W : WX} {L : List Nat} {a : Expr} {body : List Stmt} {pos p2 p3 p4 : Pos} {m : ME} {mb : MS} {F H F1 H1 F' H' : Hp} {fp fp1 fp' : Nat → List Addr} {σ σ1 : L2.St} {e e' : DEnv}
theorem Cf.toTry (C : Cf X W N sc fr) {pn : List (Addr × Obj)} {xe : Value → Shared → Prop} {W' : WX} (tk : Takes (X.tr pn xe) W') (po : PassesOwn (model X.prog X.w) X.A X.env xe) : Cf (X.tr pn xe) W' N sc fr where
  hN := C.hN
  nd := C.nd
  hsc := C.hsc
  calm := C.calm
  hu := C.hu
  hfr := C.hfr
  fnT := C.fnT
  tk := tk
  po := po
  stk := C.stk
  frm := C.frm
def mRaise (c : Nat) (m : ME) : MS := fun e => match m e with
  | .ok d e1 => .ex c d e1
  | .ex c d e1 => .ex c d e1
  | .no => .no
theorem ss_raise {c : Nat} {x : Str} {k : Nat} (C : Cf X W N sc fr) (T : ExK X.prog X.w X.K X.mg g c x) (hs : X.mg "super" = none) (R : Room (k + 1) X.A) (hg : glB sc x = true) (h : SE X g W a m)
    (hdb : (x == ("__debug__" : Str)) = false) (he : starEach [a] X.env = (false, eval a X.env) :: starEach [] X.env) : SS X g W L (.Raise (some (.Call (.Name x p2) [a] [] p3)) none pos) (mRaise c m) :=
  PS.imp (ps_raise C.calm C.tk (pmk_sup T.sup R (gl_ok C.toCn hg) T.mg hs h hdb he rfl)) fun D σ H ⟨F, fp, e, s, h⟩ => by
    refine RdE.iff.mpr ⟨F, fp, e, s, ?_⟩
    unfold mRaise at h
    cases q : m e with
    | ok d e1 =>
      rw [q] at h
      intro v F' H' fp' p s' t' tr dx hd
      refine h dx v σ F' _ fp' p (s'.new hd) (fun _ _ => rfl) ⟨t'.r.mono (fun _ _ z => z) fun c hc o z => upd_le hd c o z, t'.nd, t'.sep, t'.dj⟩ ?_ upd_same
      exact (tr.trans (Tr.new hd)).drop fun c z => .inl z
    | ex c d e1 => rw [q] at h; exact h.x
    | no => rw [q] at h; exact h
def noEx : RS → RS
  | .ex _ _ _ => .no
  | r => r
/-- try: body; except C: suite -/
def mTryO (cg : Nat → Option Bool) (mb ms : MS) : MS := fun e => match mb e with
  | .ex c d e1 => match cg c with
    | some true => noEx (ms e1)
    | some false => .ex c d e1
    | none => .no
  | r => r
theorem ss_tryO {cc : Nat} {x : Str} {b₀ : Stmt} {suite : List Stmt} {ms : MS} {cg : Nat → Option Bool} (C : Cf X W N sc fr) (hg : glB sc x = true) (hm : X.mg x = some (.ref (g.ca cc))) (hdb : (x == ("__debug__" : Str)) = false)
    (hc : ∀ c b, cg c = some b → PySem.W.exmOne X.K (.ref (g.ca c)) (.ref (g.ca cc)) = some b)
    (hb : ∀ (pn : List (Addr × Obj)) (xe : Value → Shared → Prop) (W' : WX), Cf (X.tr pn xe) W' N sc fr → SSs (X.tr pn xe) g W' L body mb)
    (hs : ∀ (a : Addr) (pn : List (Addr × Obj)), SSs (X.suite a pn) g W0 L (b₀ :: suite) ms) :
    SS X g W L (.Try body [.ExceptHandler (some (.Name x p2)) none (b₀ :: suite) p3] [] [] pos) (mTryO cg mb ms) :=
  PS.imp (ps_try_only (tb := fun W' => RdS (gOf X g) W' L mb) (ts := fun _ _ _ => RdS (gOf X g) W0 L ms) C.stk C.frm ⟨gl_ok C.toCn hg, hdb, .inl hm⟩ C.tk (fun W' pn xe tk po => hb pn xe W' (C.toTry tk po)) (fun a oe cls d pn _ _ => hs a _)) fun D σ H ⟨F, fp, e, s, h⟩ => by
    refine ⟨F, fp, e, s, ?_⟩
    unfold mTryO at h
    cases q : mb e with
    | nx e1 => rw [q] at h; exact h
    | rt d e1 => rw [q] at h; exact h
    | bk e1 => rw [q] at h; exact h
    | ct e1 => rw [q] at h; exact h
    | no => rw [q] at h; exact h
    | ex c d e1 =>
      rw [q] at h
      simp only at h
      intro dx v σ' F' H' fp' p s' l' t' tr hx
      cases q2 : cg c with
      | none => rw [q2] at h; exact h.elim
      | some b =>
        rw [q2] at h
        refine ⟨b, hc c b q2, fun hb _ _ => ?_, fun hb => ?_⟩
        · subst hb
          refine ⟨F', fp', e1, s', ?_⟩
          have h2 := SOut.trans h (tr.drop fun c z => .inl z) l'
          cases q3 : ms e1 with
          | nx e2 => rw [q3] at h2; exact h2
          | rt d e2 => rw [q3] at h2; exact h2
          | bk e2 => rw [q3] at h2; exact h2
          | ct e2 => rw [q3] at h2; exact h2
          | no => rw [q3] at h2; exact h2
          | ex c d e2 => rw [q3] at h2; exact h2.elim
        · subst hb
          exact h dx v σ' F' H' fp' p s' l' t' tr hx
/-- try: body; except C as n: return ('s', n.f) -/
def mTryR (i : Nat) (cg : Nat → Option Bool) (s : Str) (mb : MS) : MS := fun e => match mb e with
  | .ex c d e1 => match cg c with
    | some true => if fz d = true ∧ i < e1.length then .rt (.tup [.str s, d]) (e1.set i none) else .no
    | some false => .ex c d e1
    | none => .no
  | r => r
theorem ss_tryR {cc i : Nat} {x n fl sr : Str} {cg : Nat → Option Bool} {p5 p6 p7 p8 p9 : Pos} {kt jt : Nat} (C : Cf X W N sc fr) (hg : glB sc x = true) (hm : X.mg x = some (.ref (g.ca cc))) (hdb : (x == ("__debug__" : Str)) = false)
    (hn : locL N sc i n = true) (hL : i ∉ L) (hnd : (n == ("__debug__" : Str)) = false) (hnc : (n == ("__classdict__" : Str)) = false)
    (hc : ∀ c b, cg c = some b → PySem.W.exmOne X.K (.ref (g.ca c)) (.ref (g.ca cc)) = some b)
    (hx : ∀ c, cg c = some true → XfC X.K (g.ca c) ∧ PySem.W.findIn X.K (.ref (g.ca c)) fl = some none ∧ g.xn c = fl)
    (hb : ∀ (pn : List (Addr × Obj)) (xe : Value → Shared → Prop) (W' : WX), Cf (X.tr pn xe) W' N sc fr → SSs (X.tr pn xe) g W' L body mb)
    (hab : attributeBase (.Name n p8) fl X.env (eval (.Name n p8) X.env) = eval (.Name n p8) X.env)
    (hse : starEach [.Constant (.str sr) jt p6, .Attribute (.Name n p8) fl p7] X.env = (false, eval (.Constant (.str sr) jt p6) X.env) :: starEach [.Attribute (.Name n p8) fl p7] X.env)
    (hse2 : starEach [.Attribute (.Name n p8) fl p7] X.env = (false, eval (.Attribute (.Name n p8) fl p7) X.env) :: starEach [] X.env) :
    SS X g W L (.Try body [.ExceptHandler (some (.Name x p2)) (some n) [.Return (some (.Tuple [.Constant (.str sr) jt p6, .Attribute (.Name n p8) fl p7] kt p5)) p9] p3] [] [] pos) (mTryR i cg sr mb) := by
  have hl : X.N[i]? = some n ∧ X.env.kindOf n = some .local := locL_ok C.toCn hn
  refine PS.imp (ps_try_as (i := i) (tb := fun W' => RdS (gOf X g) W' L mb) (ts := fun a cls d => fun D σ H => ∃ c : Nat, cg c = some true ∧ cls = .ref (g.ca c) ∧ tSeq (tRet (tTup (tCons (tC (.str sr)) (tCons (tXf a cls d (g.ca c) fl (tVar i)) tNil)))) tNext D σ H)
    C.stk C.frm C.nd' hl.1 hl.2 ⟨gl_ok C.toCn hg, hdb, .inl hm⟩ C.tk (fun W' pn xe tk po => hb pn xe W' (C.toTry tk po)) (fun a oe cls d pn hz hf => ⟨fun pins s σ H D I ⟨c, hcg, ec, h⟩ => ?_⟩)) fun D σ H ⟨F, fp, e, s, h⟩ => ?_
  · obtain ⟨x1, x2, x3⟩ := hx c hcg
    exact (pss_cons (ps_ret (pe_tup (pa_cons pe_str (pa_cons (pe_xf x1 x2 hz hf (pe_var hl.1 (.inl hl.2) hnd hnc) hab) pa_nil hse2) hse))) pss_nil).run pins s σ H D I h
  · refine ⟨F, fp, e, s, ?_⟩
    unfold mTryR at h
    cases q : mb e with
    | nx e1 => rw [q] at h; exact h
    | rt d e1 => rw [q] at h; exact h
    | bk e1 => rw [q] at h; exact h
    | ct e1 => rw [q] at h; exact h
    | no => rw [q] at h; exact h
    | ex c d e1 =>
      rw [q] at h
      simp only at h
      intro dx v σ' F' H' fp' p s' l' t' tr hx2
      cases q2 : cg c with
      | none => rw [q2] at h; exact h.elim
      | some b =>
        rw [q2] at h
        refine ⟨b, hc c b q2, fun hb a ha => ?_, fun hb => ?_⟩
        · subst hb
          simp only at h
          split at h
          · rename_i hz
            obtain ⟨hz, hi0⟩ := hz
            obtain ⟨x1, x2, x3⟩ := hx c q2
            have hi : i < σ'.length := by
              rw [s'.len]; exact hi0
            refine ⟨c, q2, rfl, ?_⟩
            refine ⟨.ref a, List.getElem?_set_self hi, rfl, rfl, dx, [(g.xn c, v)], v, rfl, hx2, ?_, by rw [sizeLine_eq]; show (2 : Nat) ≤ _; decide, fun p' hp' => ?_⟩
            · rw [x3, List.lookup_cons, beq_self_eq_true]
            have s2 := (s'.forget (i := i)).newF (o := .tup [.str sr, v]) hp'
            have hp0 : p = [] := t'.r.nil_of_fz hz
            subst hp0
            have rd : RO (gOf X g) (upd F' p' (.tup [.str sr, v])) (upd H' p' (.tup [.str sr, v])) [] v d := t'.r.monoZ (upd_le (s'.fnone hp'))
            refine h (.ref p') σ' _ _ _ [] s2 l' (TO.z (.tup upd_same (ROs.consZ (.str sr) (ROs.consZ rd .nil)))) ?_
            refine (tr.trans (Tr.newF s'.sub hp')).weak (fun _ z => z) fun c z => ?_
            rcases z with z | z
            · exact .inl (.inl (own_take c (.inl z)))
            · cases z
          · exact h.elim
        · subst hb
          exact h dx v σ' F' H' fp' p s' l' t' tr hx2
end
end EV

/-! EvX: the head's facts of own exception classes. -/
namespace EV
open PySem PySem.Spec PyProof.Rows L2 PySem.W He

/-- an own exception class: its name, its __init__'s qualified name, parameters, body; its field, the parameter that fills it -/
structure ClD where
  x : Str
  qual : Str
  fl : Str
  pf : Str
  params : Arguments
  body : List Stmt
abbrev ClV : Type := Option (Str × Str × Arguments × FuncBody × Scope × Addr × List Str × Addr)
def clW (K : Frag) (x : Str) : ClV := match K.lookup (ma K (ga K x) "__init__") with
  | some ⟨_, _, .func fd, _⟩ => some (fd.name, fd.qualname, fd.params, fd.body, fd.scope, fd.globals, fd.closure.map (·.1), fd.builtins)
  | _ => none
def ClD.val (c : ClD) : ClV := some ("__init__", c.qual, c.params, .stmts c.body, supScope c.pf, mainGlobals, ["__class__"], builtinsNs)
def oexB (K : Frag) (C : Addr) : Bool := match K.lookup C with
  | some ⟨.type "type", _, .cls cd, sl⟩ => (match cd.mro, sl.toList with
    | .ref C' :: bm, [_, _, _, _, some (.builtin n), _] => C' == C && n == "ValueError.__new__" && !cd.hasDel && cd.hasDict && HandSPX.refsVE bm
    | _, _ => false)
  | _ => false
def eqA (a b : Option Value) : Bool := decide (a = b)
/-- what __init__'s function leans on -/
def iniB (file : Str) (K : Frag) (C : Addr) (c : ClD) : Bool := match K.lookup (ma K C "__init__") with
  | some ⟨_, _, .func fd, _⟩ => (match fd.code, fd.closure, fd.defaults with
    | .ref cda, [(_, cc)], .none => codeIn K (.ref cda) c.qual && (match K.lookup cda with
      | some ⟨_, _, .fields vs, _⟩ => (match (vs[2]? : Option Value) with
        | some (Value.str fi _) => file == fi
        | _ => false)
      | _ => false) && (match K.lookup cc with
      | some ⟨_, _, .cell (some (.ref C')), _⟩ => C' == C
      | _ => false)
    | _, _, _ => false)
  | _ => false
def excB (K : Frag) (D : Addr) : Bool := eqO (findIn K (.ref D) "__class__") (some (some (.builtin "object.__class__"))) && (eqO (specialIn K (.builtin "object.__class__") "__get__") (some (some (.builtin "getset_descriptor.__get__"))) &&
  (decide (takesIn K (.builtin "object.__class__") = some true) && decide (mroIn K D (.type "object") = some true)))
def clB (file : Str) (K : Frag) (c : ClD) : Bool :=
  oexB K (ga K c.x) && (eqO (findIn K (.ref (ga K c.x)) "__setattr__") (some (some (.builtin "object.__setattr__"))) && (decide (subIn K (.ref (ga K c.x)) (.type "BaseException") = some true) && (decide (typeIn K (.ref (ga K c.x)) = some (.type "type")) && (keepIn K (.ref (ga K c.x)) &&
  (eqO (findIn K (.ref (ga K c.x)) "__init__") (some (some (.ref (ma K (ga K c.x) "__init__")))) && (decide (typeIn K (.ref (ma K (ga K c.x) "__init__")) = some (.type "function")) && (iniB file K (ga K c.x) c &&
  (decide (mroIn K (ga K c.x) (.ref (ga K c.x)) = some true) && (eqO (nsIn K cStatics "thirdparty.any") (some none) && (eqO (ks_superIn K (ga K c.x) (ga K c.x) "__init__") (some (some (.builtin "ValueError.__init__"))) &&
  (decide (subIn K (.ref (ga K c.x)) (.type "ValueError") = some true) && (excInitIn K (ga K c.x) HandSPX.veTail "ValueError.__new__" && (eqO (findIn K (.ref (ga K c.x)) c.fl) (some none) && (xfB K (ga K c.x) && excB K (ga K c.x)))))))))))))))
theorem oexB_ok {K : Frag} {C : Addr} (q : oexB K C = true) : ∃ nm q N bs bm sn sub ab col dd k0 k1 k2 k3 k5, K.lookup C = some (excClassObj nm q C N bs bm true sn sub ab col dd k0 k1 k2 k3 k5 "ValueError.__new__") ∧ HandSPX.refsVE bm = true := by
  unfold oexB at q
  split at q
  · rename_i dd cd sl ho
    split at q
    · rename_i C' bm k0 k1 k2 k3 n k5 hm hs
      simp only [Bool.and_eq_true, beq_iff_eq, Bool.not_eq_true'] at q
      obtain ⟨⟨⟨⟨rfl, rfl⟩, hdel⟩, hh⟩, ht⟩ := q
      obtain ⟨nm, bs, mro, ns, qn, hd, sn, sub, ab, col, del⟩ := cd
      dsimp only at hm hdel hh
      subst hm hdel hh
      have hsl : sl = #[k0, k1, k2, k3, some (.builtin "ValueError.__new__"), k5] := by
        obtain ⟨l⟩ := sl
        simp only at hs
        rw [hs]
      subst hsl
      exact ⟨nm, qn, ns, bs, bm, sn, sub, ab, col, dd, k0, k1, k2, k3, k5, ho, ht⟩
    · cases q
  · cases q
theorem exc_of {file : Str} {K : Frag} {c : ClD} (hb : clB file K c = true) : ExcC K (ga K c.x) := by
  obtain ⟨_, hb⟩ := ba hb
  obtain ⟨_, hb⟩ := ba hb
  obtain ⟨_, hb⟩ := ba hb
  obtain ⟨_, hb⟩ := ba hb
  obtain ⟨_, hb⟩ := ba hb
  obtain ⟨_, hb⟩ := ba hb
  obtain ⟨_, hb⟩ := ba hb
  obtain ⟨_, hb⟩ := ba hb
  obtain ⟨_, hb⟩ := ba hb
  obtain ⟨_, hb⟩ := ba hb
  obtain ⟨_, hb⟩ := ba hb
  obtain ⟨_, hb⟩ := ba hb
  obtain ⟨_, hb⟩ := ba hb
  obtain ⟨_, hb⟩ := ba hb
  obtain ⟨b15, b16⟩ := ba hb
  have T := xfB_ok b15
  obtain ⟨e1, b16⟩ := ba b16
  obtain ⟨e2, b16⟩ := ba b16
  obtain ⟨e3, e4⟩ := ba b16
  exact ⟨T.ga, T.gg, T.exC, T.hdC, eqO_ok e1, eqO_ok e2, of_decide_eq_true e3, of_decide_eq_true e4⟩
/-- a class statement's one method -/
def clFn : Stmt → Arguments × List Stmt
  | .ClassDef _ _ _ (.FunctionDef _ a b _ _ _ _ _ _ _ :: _) _ _ _ _ _ _ _ => (a, b)
  | _ => default
/-- what the text says of the class -/
def SupOk (c : ClD) : Prop := ∃ (ms : Str) (pa pb pc pd pe pg ph pi pj pk : Pos) (tn : Nat) (ar : Arg), c.body = supBody ms c.pf c.fl pa pb pc pd pe pg ph pi pj pk tn ∧ (pc.endLine == pe.line) = true ∧
  (c.params.posonlyargs ++ c.params.args).head? = some ar ∧ ar.arg = "self" ∧ (c.pf == ("self" : Str)) = false ∧ (c.pf == ("__debug__" : Str)) = false ∧
  ((supScope c.pf).names.lookup ("super" : Str) = some .globalImplicit) ∧ ((supScope c.pf).names.lookup ("__class__" : Str) = some .free) ∧ ((supScope c.pf).names.lookup c.pf = some .local) ∧
  ∀ (kV doc pm ct cdv : Value) (an : Option Addr) (cc x : Addr) (v : Value), bindArgs (ksFn "__init__" c.qual c.params c.body (supScope c.pf) .none kV doc pm an cdv ct cc) ⟨[.ref x, v], []⟩ = pure [((("self" : Str)), Value.ref x), (c.pf, v)]
theorem cl_ok {prog : Program} {w : World} {K : Frag} {mg : Str → Option Value} {g : GF} {n : Nat} {c : ClD} (hS : SupOk c) (hv : clW K c.x = c.val) (hb : clB prog.main.file K c = true) (htop : (prog.main.scope.names.lookup ("super" : Str)).isSome = false)
    (hm : mg c.x = some (.ref (ga K c.x))) (hg : g.ca n = ga K c.x) (hx : g.xn n = c.fl) : ExK prog w K mg g n c.x := by
  obtain ⟨b1, hb⟩ := ba hb
  obtain ⟨b2, hb⟩ := ba hb
  obtain ⟨b3, hb⟩ := ba hb
  obtain ⟨b4, hb⟩ := ba hb
  obtain ⟨b5, hb⟩ := ba hb
  obtain ⟨b6, hb⟩ := ba hb
  obtain ⟨b7, hb⟩ := ba hb
  obtain ⟨b8, hb⟩ := ba hb
  obtain ⟨b9, hb⟩ := ba hb
  obtain ⟨b10, hb⟩ := ba hb
  obtain ⟨b11, hb⟩ := ba hb
  obtain ⟨b12, hb⟩ := ba hb
  obtain ⟨b13, hb⟩ := ba hb
  obtain ⟨b14, hb⟩ := ba hb
  obtain ⟨b15, b16⟩ := ba hb
  have oe : OexC K (ga K c.x) := ⟨oexB_ok b1, eqO_ok b2, of_decide_eq_true b3, of_decide_eq_true b4, b5⟩
  refine ⟨?_, by rw [hg]; exact hm, by rw [hg]; exact xfB_ok b15, by rw [hg, hx]; exact eqO_ok b14⟩
  rw [hg, hx]
  refine ⟨oe, ma K (ga K c.x) "__init__", eqO_ok b6, of_decide_eq_true b7, ?_⟩
  intro A R mgg mb h gg d t os x t0 v room XK hgl hms hbn hbb hlim hxx hnK hq
  obtain ⟨ms, pa, pb, pc, pd, pe, pg, ph, pi, pj, pk, tn, ar, s1, s2, s3, s4, s5, s6, s7, s8, s9, s10⟩ := hS
  unfold clW at hv
  unfold iniB at b8
  cases q : K.lookup (ma K (ga K c.x) "__init__") with
  | none => rw [q] at hv; cases hv
  | some o =>
    obtain ⟨oc, od, dt, osl⟩ := o
    rw [q] at hv b8
    cases dt with
    | func fd =>
      obtain ⟨n1, n2, n3, n4, n5, n6, n7, n8, n9, n10, n11, n12, n13, n14, n15⟩ := fd
      have e2 : (some (n1, n2, n3, n4, n5, n6, n7.map (·.1), n15) : ClV) = (some ((("__init__" : Str)), c.qual, c.params, FuncBody.stmts c.body, supScope c.pf, mainGlobals, ([("__class__" : Str)] : List Str), builtinsNs) : ClV) := hv
      simp only [Option.some.injEq, Prod.mk.injEq] at e2
      obtain ⟨h1, h2, h3, h4, h5, h6, h7, h8⟩ := e2
      subst h1 h2 h3 h4 h5 h6 h8
      simp only at b8
      split at b8
      · rename_i cda nm cc
        simp only [List.map_cons, List.map_nil, List.cons.injEq, and_true] at h7
        subst h7
        obtain ⟨b8, c3⟩ := ba b8
        obtain ⟨c1, c2⟩ := ba b8
        cases q2 : K.lookup cda with
        | none => rw [q2] at c2; cases c2
        | some oc2 =>
          obtain ⟨ccl, cdd, cdt, ccs⟩ := oc2
          rw [q2] at c2
          cases cdt with
          | fields vs =>
            simp only at c2
            cases q3 : vs[2]? with
            | none => rw [q3] at c2; cases c2
            | some vv =>
              rw [q3] at c2
              cases vv with
              | str fi tf =>
                cases q4 : K.lookup cc with
                | none => rw [q4] at c3; cases c3
                | some oc3 =>
                  obtain ⟨cl3, cd3, ct3, cs3⟩ := oc3
                  rw [q4] at c3
                  cases ct3 with
                  | cell cv =>
                    cases cv with
                    | none => cases c3
                    | some cv =>
                      cases cv with
                      | ref C' =>
                        have e3 : C' = ga K c.x := by simpa using c3
                        subst e3
                        obtain ⟨nm, q9, N, bs, bm, sn, sub, ab, col, dd, k0, k1, k2, k3, k5, hC, hbm⟩ := oe.cls
                        have hD : clsIn K (ga K c.x) = some { name := nm, bases := bs, mro := .ref (ga K c.x) :: bm, ns := N, qualname := q9, hasDict := true, slotNames := sn, subclasses := sub, abstract := ab, collection := col, hasDel := false } := by unfold clsIn; rw [hC] <;> rfl
                        rw [s1] at q s10
                        exact init_sup room XK hgl hms hbn hbb hlim hxx hnK oe q c1 q2 q3 c2 q4 hD (of_decide_eq_true b9) s3 s4 s5 (fun s => .of_eq (s10 _ _ _ _ _ _ _ _ _)) s7 s8 s9 htop (eqO_ok b10) (eqO_ok b11) (of_decide_eq_true b12) b13 (eqO_ok b14) s6 s2 hq
                      | _ => cases c3
                  | _ => cases c3
              | _ => cases c2
          | _ => cases c2
      · cases b8
    | _ => cases b8

/-! ### the Hook -/
abbrev AlC : Type := AlD × Bool × List ClV
def kxB (K : Frag) (q : Str × Str × Bool) : Bool := decide (kitOne K (.ref (ga K q.1)) (.ref (ga K q.2.1)) = some q.2.2)
def obsC (file : Str) (fa : List Fa) (fn : List DefD) (cs : List ClD) (kx : List (Str × Str × Bool)) (K : Frag) : AlC := (obsD fa fn K, cs.all (fun c => clB file K c) && kx.all (fun q => kxB K q), cs.map fun c => clW K c.x)
def valC (fn : List DefD) (cs : List ClD) : AlC := (valD fn, true, cs.map ClD.val)
def SaysC (file : Str) (fa : List Fa) (fn : List DefD) (cs : List ClD) (kx : List (Str × Str × Bool)) (K : Frag) : Prop := obsC file fa fn cs kx K = valC fn cs
def obsCG (file : Str) (n : Nat) (fa : List Fa) (fn : List DefD) (cs : List ClD) (kx : List (Str × Str × Bool)) (g : Addr → Option Obj) : AlC := obsC file fa fn cs kx (frG g (cStatics :: asD g n))
def hookC (file : Str) (n : Nat) (fa : List Fa) (fn : List DefD) (cs : List ClD) (kx : List (Str × Str × Bool)) : PySem.W.Hook where
  α := AlC
  obs := fun s => obsCG file n fa fn cs kx s.heap.get?
  val := fun _ => valC fn cs
  says := fun _ h => ∃ K : PySem.W.Frag, K.In h ∧ SaysC file fa fn cs kx K
  of := fun _ _ e => ⟨_, frG_in, e⟩
  keeps := fun _ _ _ ⟨K, hK, c⟩ k => ⟨K, PySem.W.Frag.In.keeps hK k, c⟩
theorem obsCG_eq {file : Str} {n : Nat} {fa : List Fa} {fn : List DefD} {cs : List ClD} {kx : List (Str × Str × Bool)} {g : Addr → Option Obj} {s : Shared} (h : ∀ a, g a = s.heap.get? a) : obsCG file n fa fn cs kx g = (hookC file n fa fn cs kx).obs s := by
  have e : g = s.heap.get? := funext h
  rw [e] <;> rfl
section
variable {file : Str} {fa : List Fa} {fn : List DefD} {cs : List ClD} {kx : List (Str × Str × Bool)} {K : Frag}
theorem SaysC.d (c : SaysC file fa fn cs kx K) : SaysD fa fn K := congrArg (fun z : AlC => z.1) c
theorem SaysC.cl (c : SaysC file fa fn cs kx K) (i : Nat) {d : ClD} (h : cs[i]? = some d := by rfl) : clW K d.x = d.val ∧ clB file K d = true := by
  have c2 : ((cs.all fun c => clB file K c) && kx.all (fun q => kxB K q)) = true := congrArg (fun z : AlC => z.2.1) c
  have e : cs.map (fun d => clW K d.x) = cs.map ClD.val := congrArg (fun z : AlC => z.2.2) c
  have e2 : (cs.map fun d => clW K d.x)[i]? = (cs.map ClD.val)[i]? := by rw [e]
  rw [List.getElem?_map, List.getElem?_map, h] at e2
  exact ⟨Option.some.inj e2, List.all_eq_true.mp (ba c2).1 d (List.mem_of_getElem? h)⟩
theorem SaysC.kit (c : SaysC file fa fn cs kx K) (i : Nat) {q : Str × Str × Bool} (h : kx[i]? = some q := by rfl) : kitOne K (.ref (ga K q.1)) (.ref (ga K q.2.1)) = some q.2.2 := by
  have c2 : ((cs.all fun c => clB file K c) && kx.all (fun q => kxB K q)) = true := congrArg (fun z : AlC => z.2.1) c
  exact of_decide_eq_true (List.all_eq_true.mp (ba c2).2 q (List.mem_of_getElem? h))
end
end EV

/-! EvY: enumerate of lists and of tuples. -/
namespace EV
open PySem PySem.Spec PyProof.Rows L2

theorem enumT_new (c : Addr) (us : Array Value) : Meets (Builtin.«enumerate.__new__» ⟨[.type "enumerate", .ref c], []⟩) (fun _ R s => s.heap.IsTuple c us ∧
    R (.ok (.ret (.ref (s.heap.push { cls := .type "tuple_iterator", data := .fields #[.ref c, .int 0 0] }).objs.size)))
      { s with heap := (s.heap.push { cls := .type "tuple_iterator", data := .fields #[.ref c, .int 0 0] }).push { cls := .type "enumerate", data := .fields #[.none, .bool false, .ref s.heap.objs.size, rawInt 0, .none, .none] } }) :=
  .of_wp fun prog w A R s hR => by
    obtain ⟨hh, gs, dr, tt, oo⟩ := s; obtain ⟨hT, hR⟩ := hR
    have hsb := sub_enumerate
    have tT : Heap.IsTuple (Shared.heap ⟨hh, gs, dr, tt, oo⟩) c us := hT
    wp_walk
    refine wpAny_stack_any fun stk => wpAny_pure ?_
    split
    · rename_i cc _ _ _ _ _
      cases (cc == Value.type "enumerate") <;> (wp_walk using wpAny_pyIter_tuple tT; exact ⟨_, rfl, hR⟩)
    · wp_walk using wpAny_pyIter_tuple tT
      exact ⟨_, rfl, hR⟩
section
variable {prog : Program} {w : World} {A : Around} {E : Value → Shared → Prop} {s : Shared}
theorem enumT_call {c : Addr} {us : Array Value} {Q : Value → Shared → Prop} (tT : s.heap.IsTuple c us)
    (k : ∀ h', IsEnum h' (s.heap.objs.size + 1) s.heap.objs.size 0 .none → h'.IsTupleIter s.heap.objs.size c 0 → (∀ b o, s.heap.get? b = some o → h'.get? b = some o) → Q (.ref (s.heap.objs.size + 1)) { s with heap := h' }) :
    wpAny (model prog w) A (call (.type "enumerate") [.ref c]) Q E s := by
  refine callType_new F.called_enumerate (by decide) (F.typeCall_enumerate_1 _) (F.newCall_enumerate_1 _) (fun obj => F.args_object_init_2 obj _) F.entry_enumerate_new (enumT_new c us) ⟨tT, ?_⟩
  generalize e1 : s.heap.push { cls := .type "tuple_iterator", data := .fields #[.ref c, .int 0 0] } = P1
  have z1 : P1.objs.size = s.heap.objs.size + 1 := by rw [← e1]; exact Heap.size_push ..
  have g1 : P1.get? s.heap.objs.size = some { cls := .type "tuple_iterator", data := .fields #[.ref c, .int 0 0] } := by rw [← e1]; exact Heap.get?_push_size _ rfl
  have k1 : ∀ b o, s.heap.get? b = some o → P1.get? b = some o := fun b o q => by rw [← e1]; exact Heap.get?_push_of_some _ q
  have ie : IsEnum (P1.push { cls := .type "enumerate", data := .fields #[.none, .bool false, .ref s.heap.objs.size, rawInt 0, .none, .none] }) P1.objs.size s.heap.objs.size 0 .none := Heap.get?_push_size P1 rfl
  rw [z1] at ie
  show _ ∧ _
  rw [z1]
  exact ⟨⟨_, ie, rfl⟩, k _ ie ⟨_, Heap.get?_push_of_some _ g1, rfl, rfl⟩ fun b o q => Heap.get?_push_of_some _ (k1 b o q)⟩
end
/-- the tuple at a, each item in a new pair with its number -/
def ItN (K : PySem.W.Frag) (a : Addr) : It :=
  ⟨fun i H => ∃ (xs : List V) (x : V), SqT K H a xs ∧ xs[i]? = some x, fun i H v H' => ∃ T x, v = .ref T ∧ H T = none ∧ H' = upd H T (.tup [.int (i : Nat), x]) ∧ ∀ xs, SqT K H a xs → xs[i]? = some x,
    fun i H => ∃ xs : List V, SqT K H a xs ∧ xs.length = i⟩
theorem turn_enumT {P : Program} {w : World} {K : PySem.W.Frag} {elts : List Expr} {kk : Nat} {tpos : Pos} {a e it : Addr} (hae : a ≠ e) (hai : a ≠ it) :
    Turn P w K (.Tuple elts kk tpos) (ItN K a) [e, it] e (fun i h => (∃ old, IsEnum h e it ((i : Nat) : Int) old) ∧ h.IsTupleIter it a i ∧ e ≠ it) where
  mem := List.mem_cons_self ..
  obj := fun i h st b hb => by
    obtain ⟨⟨old, he⟩, ⟨o, ho, hc, hd⟩, _⟩ := st
    simp only [List.mem_cons, List.not_mem_nil, or_false] at hb
    rcases hb with rfl | rfl
    · exact ⟨_, he, fun v q => nomatch q⟩
    · exact ⟨o, ho, fun v q => by rw [hd] at q; cases q⟩
  keep := fun i h h' st k => by
    obtain ⟨⟨old, he⟩, hi, hne⟩ := st
    exact ⟨⟨old, k e (by simp) _ he⟩, hi.at fun o q => k it (by simp) o q, hne⟩
  item := by
    intro X hP hw hK hc i pins s σ H E I hf st hg
    subst hP hw hK
    obtain ⟨⟨old, he⟩, hit, hne⟩ := st
    obtain ⟨xs, x, hq, hx⟩ := hg
    obtain ⟨its, rv, p, hz⟩ := I.tuple hq
    obtain ⟨u, hu, ru⟩ := rv.get hx
    have tT : s.heap.IsTuple a its.toArray := p
    have hel : e < s.heap.objs.size := Heap.lt_size he
    have hil : it < s.heap.objs.size := by obtain ⟨_, q, _⟩ := hit; exact Heap.lt_size q
    have hlt : i < its.toArray.size := by
      have := (List.getElem?_eq_some_iff.mp hu).1
      simpa using this
    refine wpAny_pyNext_enum_itemD (Draws.tuple (prog := X.prog) (w := X.w) (A := X.A.in1) (I.ok.hd hc) it a hai its.toArray) he ⟨hit, tT⟩ hlt hne (by simp [hne, Ne.symm hae]) fun x' h' tk hx' ho st' hT hsz hk => ?_
    have ex : x' = u := by
      have h2 : its.toArray[i]? = some x' := hx'
      simp only [List.getElem?_toArray] at h2
      rw [hu] at h2
      exact (Option.some.inj h2).symm
    subst ex
    refine ⟨_, rfl, wpAny_letOwnedTupleGo_enum (s := { s with heap := h', toks := tk + 1 }) ho fun h'' he' sb => ?_⟩
    have hT2 : h''.get? s.heap.objs.size = some { cls := .type "tuple", data := .seq #[.int i tk, x'] } := (sb.2 _ (Nat.ne_of_gt hel)).trans hT
    have new : ObjOk X.prog X.w (upd H s.heap.objs.size (.tup [.int (i : Nat), x])) h'' s.heap.objs.size (.tup [.int (i : Nat), x]) := by
      refine ⟨by show (2 : Nat) ≤ _; rw [sizeLine_eq]; decide, [.int i tk, x'], .cons ⟨_, rfl⟩ (.cons ru .nil), ?_⟩
      exact ⟨_, hT2, rfl, _, rfl⟩
    have kb : ∀ b o, b ∉ [e, it] → s.heap.get? b = some o → h''.get? b = some o := fun b o hb q => by
      have b1 : b ≠ e := fun z => hb (by simp [z])
      have b2 : b ≠ it := fun z => hb (by simp [z])
      exact (sb.2 b b1).trans (hk b o b1 b2 q)
    have I1 : Inv X pins σ (upd H s.heap.objs.size (.tup [.int (i : Nat), x])) { s with heap := h'', toks := tk + 1 } := I.turnedNew (ch := [e, it]) kb hf (Nat.le_refl _) new
    refine ⟨.ref s.heap.objs.size, _, I1, rfl, ⟨_, x, rfl, I.hok.fresh (Nat.le_refl _), rfl, fun ys hy => ?_⟩, ⟨⟨x', ?_⟩, ?_, hne⟩, fun b hb => ?_⟩
    · rw [I.tuple_inj hy hq]; exact hx
    · rw [show ((i + 1 : Nat) : Int) = (i : Int) + 1 from by omega]; exact he'
    · exact st'.1.at fun o q => (sb.2 it (Ne.symm hne)).trans q
    · have hb' : b ≠ s.heap.objs.size := by
        simp only [List.mem_cons, List.not_mem_nil, or_false] at hb
        rcases hb with rfl | rfl
        · exact Nat.ne_of_lt hel
        · exact Nat.ne_of_lt hil
      rw [upd_ne hb']
      exact (hf b hb).1
  done := by
    intro X hP hw hK hc i pins s σ H E I hf st hg
    subst hP hw hK
    obtain ⟨⟨old, he⟩, hit, hne⟩ := st
    obtain ⟨xs, hq, hx⟩ := hg
    obtain ⟨its, rv, p, hz⟩ := I.tuple hq
    have tT : s.heap.IsTuple a its.toArray := p
    have hn : its.toArray.size = i := by
      have := rv.length
      simp only [List.size_toArray]
      omega
    subst hn
    obtain ⟨f0, f1, f2, f3, f4, f5⟩ := hf it (by simp)
    exact wpAny_pyNext_enum_endD (Draws.tuple (prog := X.prog) (w := X.w) (A := X.A.in1) (I.ok.hd hc) it a hai its.toArray) he ⟨hit, tT⟩ fun h' eb => ⟨rfl, I.turned (t' := s.toks) (fun b o hb q => eb b o hb q) f0 f1 f3 f4 f5⟩
  self := fun A i s Q E st h => by
    obtain ⟨⟨_, he⟩, _⟩ := st
    exact wpAny_pyIter_enum he h
/-- enumerate(x): x a list or a tuple -/
def iEnumA (K : PySem.W.Frag) (ta : TA) : TI := fun σ H R => ta σ H fun vs H1 => ∃ a xs, vs = [.ref a] ∧ ((SqL K H1 a xs ∧ R (Ite K a) H1) ∨ (SqT K H1 a xs ∧ R (ItN K a) H1))
theorem pi_enumA {X : Cx} {e : Expr} {ta : TA} {p pos tpos : Pos} {elts : List Expr} {kk : Nat} (hg : Gl X "enumerate") (hm : X.mg "enumerate" = none) (ha : PA X [e] ta) (hs : starEach [e] X.env = [(false, eval e X.env)]) :
    PI X (.Tuple elts kk tpos) (.Call (.Name "enumerate" p) [e] [] pos) (iEnumA X.K ta) := by
  refine ⟨fun pins s σ H R I h => ?_⟩
  refine Call_ (ld_blt I hg hm boot_enumerate (PyProof.Rows.callWith_type1 (thn (ha.run pos pins s σ H _ I h) fun us s1 ⟨vs, H1, I1, r1, a, xs, ex, q1⟩ => ?_) hs rfl))
  subst ex
  cases r1 with
  | cons r rr =>
    cases rr
    cases r
    have fresh : ∀ b, b ∈ [s1.heap.objs.size + 1, s1.heap.objs.size] → FpOk X pins H1 b := fun b hb => by
      simp only [List.mem_cons, List.not_mem_nil, or_false] at hb
      have hle : s1.heap.objs.size ≤ b := by rcases hb with rfl | rfl <;> omega
      exact I1.fpOk hle (I1.hok.fresh hle)
    rcases q1 with ⟨hq, q⟩ | ⟨hq, q⟩
    · obtain ⟨its, rv, pl, _⟩ := I1.list hq
      refine call_enumerate_list pl.isList fun h' he hit _ hk => wpAny_pyIter_enum he ?_
      exact ⟨_, _, _, _, H1, rfl, I1.kept (t' := s1.toks) hk, turn_enum a (s1.heap.objs.size + 1) s1.heap.objs.size, ⟨⟨.none, he⟩, hit, Nat.succ_ne_self _⟩, fresh, q⟩
    · obtain ⟨its, rv, pt, _⟩ := I1.tuple hq
      have tT : s1.heap.IsTuple a its.toArray := pt
      have lt : a < s1.heap.objs.size := by obtain ⟨o, ho, _⟩ := tT; exact Heap.lt_size ho
      refine enumT_call tT fun h' he hit hk => wpAny_pyIter_enum he ?_
      exact ⟨_, _, _, _, H1, rfl, I1.kept (t' := s1.toks) hk, turn_enumT (e := s1.heap.objs.size + 1) (it := s1.heap.objs.size) (Nat.ne_of_lt (Nat.lt_succ_of_lt lt)) (Nat.ne_of_lt lt), ⟨⟨.none, he⟩, hit, Nat.succ_ne_self _⟩, fresh, q⟩
section
variable {X : Cx} {N : List Str} {sc : Scope} {fr : List Str} {g : GF} {G : GI} {W : WX} {a : Expr} {pos p2 : Pos} {m : ME} {F H F1 H1 F' H' : Hp} {fp fp1 fp' : Nat → List Addr} {σ σ1 : L2.St} {e e' : DEnv}
def numD (k : Nat) : List D → List D
  | [] => []
  | d :: ds => .tup [.int (k : Nat), d] :: numD (k + 1) ds
def enumD : D → Option (List D)
  | .tup xs => some (numD 0 xs)
  | .lst _ xs => some (numD 0 xs)
  | _ => none
theorem numD_len : ∀ {k : Nat} {xs : List D}, (numD k xs).length = xs.length
  | _, [] => rfl
  | k, _ :: xs => congrArg (· + 1) (numD_len (k := k + 1) (xs := xs))
theorem numD_get : ∀ {xs : List D} {n k : Nat} {d : D}, (numD n xs)[k]? = some d → ∃ x, xs[k]? = some x ∧ d = .tup [.int ((n + k : Nat) : Nat), x]
  | [], _, _, _, h => by cases h
  | x :: xs, n, 0, d, h => by
    injection h with h
    exact ⟨x, rfl, h.symm⟩
  | x :: xs, n, k + 1, d, h => by
    obtain ⟨y, h1, h2⟩ := numD_get (xs := xs) (n := n + 1) (k := k) h
    exact ⟨y, h1, by rw [h2, show n + 1 + k = n + (k + 1) from by omega]⟩
def mEnum (m : ME) : MI := fun e => match m e with
  | .ok d e1 => match enumD (frz d) with
    | some ds => .ok ds none e1
    | none => .no
  | .ex c d e1 => .ex c d e1
  | .no => .no
theorem itok_enumL {K : PySem.W.Frag} {A : Addr} {P : List Addr} {H0 : Hp} {vs : List V} {xs : List D} (h1 : F A = some (.lst vs)) (r1 : ROs G F H [] vs xs) : ItOk G (Ite K A) F P H0 (numD 0 xs) where
  go := fun F' H' k d q1 _ q2 q3 => by
    obtain ⟨x, e1, rfl⟩ := numD_get q3
    obtain ⟨u, hu, ru⟩ := r1.get e1
    refine ⟨⟨vs, u, SqL.of (q2 _ _ (q1 _ _ h1)), hu⟩, fun v H2 yl => ?_⟩
    obtain ⟨T, x', rfl, hT, rfl, f1⟩ := yl
    have g1 := f1 vs (SqL.of (q2 _ _ (q1 _ _ h1)))
    rw [hu] at g1
    cases g1
    rw [Nat.zero_add]
    exact pair_new q2 hT (.int _) (ru.monoZ q1)
  stop := fun F' H' q1 _ q2 => ⟨vs, SqL.of (q2 _ _ (q1 _ _ h1)), by rw [numD_len, r1.length]; exact Nat.le_refl _⟩
theorem itok_enumT {K : PySem.W.Frag} {A : Addr} {P : List Addr} {H0 : Hp} {vs : List V} {xs : List D} (h1 : F A = some (.tup vs)) (r1 : ROs G F H [] vs xs) : ItOk G (ItN K A) F P H0 (numD 0 xs) where
  go := fun F' H' k d q1 _ q2 q3 => by
    obtain ⟨x, e1, rfl⟩ := numD_get q3
    obtain ⟨u, hu, ru⟩ := r1.get e1
    refine ⟨⟨vs, u, SqT.of (q2 _ _ (q1 _ _ h1)), hu⟩, fun v H2 yl => ?_⟩
    obtain ⟨T, x', rfl, hT, rfl, f1⟩ := yl
    have g1 := f1 vs (SqT.of (q2 _ _ (q1 _ _ h1)))
    rw [hu] at g1
    cases g1
    rw [Nat.zero_add]
    exact pair_new q2 hT (.int _) (ru.monoZ q1)
  stop := fun F' H' q1 _ q2 => ⟨vs, SqT.of (q2 _ _ (q1 _ _ h1)), by rw [numD_len, r1.length]⟩
theorem si_enum {elts : List Expr} {kk : Nat} {tpos : Pos} (C : Cn X N sc fr) (h1 : ("enumerate" : Str) ∈ fr) (h2 : glB sc "enumerate" = true) (ha : SE X g W a m) (hs : starEach [a] X.env = (false, eval a X.env) :: starEach [] X.env) (hs2 : starEach [a] X.env = [(false, eval a X.env)]) :
    SI X g W (.Tuple elts kk tpos) (.Call (.Name "enumerate" p2) [a] [] pos) (mEnum m) := PI.imp (pi_enumA (gl_ok C h2) (C.hfr _ h1) (pa_cons ha.z pa_nil hs) hs2) fun σ H R ⟨F, fp, e, s, h⟩ => by
  refine ⟨F, fp, e, s, ?_⟩
  unfold mEnum at h
  cases q : m e with
  | ex c d e1 => rw [q] at h; exact h
  | no => rw [q] at h; exact h
  | ok d1 e1 =>
    rw [q] at h
    intro x F1 H1 fp1 s1 r1 tr1
    simp only at h
    generalize frz d1 = z1 at h r1
    cases z1 with
    | tup xs =>
      obtain ⟨A, vs, rfl, ha, ra⟩ := r1.tup_inv
      exact ⟨A, vs, rfl, .inr ⟨SqT.of (s1.sub _ _ ha), h _ F1 H1 fp1 [] s1 rfl tr1.nil (itok_enumT ha ra)⟩⟩
    | lst o xs =>
      obtain ⟨_, A, vs, rfl, ha, ra⟩ := r1.lst_inv
      exact ⟨A, vs, rfl, .inl ⟨SqL.of (s1.sub _ _ ha), h _ F1 H1 fp1 [] s1 rfl tr1.nil (itok_enumL ha ra)⟩⟩
    | _ => exact h.elim
end
end EV

/-! EvZ: slices; a module's number; defaults. -/
namespace EV
open PySem PySem.Spec PyProof.Rows L2
section
variable {X : Cx} {N : List Str} {sc : Scope} {fr : List Str} {g : GF} {G : GI} {W : WX} {a : Expr} {pos p2 : Pos} {m : ME} {F H F1 H1 F' H' : Hp} {fp fp1 fp' : Nat → List Addr} {σ σ1 : L2.St} {e e' : DEnv}
theorem ROs.dropZ : ∀ {vs : List V} {ds : List D} (n : Nat), ROs G F H [] vs ds → ROs G F H [] (vs.drop n) (ds.drop n)
  | _, _, 0, r => r
  | [], ds, n + 1, r => by
    have := r.length
    cases ds with
    | nil => exact .nil
    | cons _ _ => cases this
  | v :: vs, ds, n + 1, r => by
    cases ds with
    | nil => have := r.length; cases this
    | cons d ds =>
      obtain ⟨r1, r2⟩ := r.unconsZ
      exact ROs.dropZ n r2
theorem ROs.takeZ : ∀ {vs : List V} {ds : List D} (n : Nat), ROs G F H [] vs ds → ROs G F H [] (vs.take n) (ds.take n)
  | _, _, 0, r => by rw [List.take_zero, List.take_zero]; exact .nil
  | [], ds, n + 1, r => by
    have := r.length
    cases ds with
    | nil => exact .nil
    | cons _ _ => cases this
  | v :: vs, ds, n + 1, r => by
    cases ds with
    | nil => have := r.length; cases this
    | cons d ds =>
      obtain ⟨r1, r2⟩ := r.unconsZ
      exact ROs.consZ r1 (ROs.takeZ n r2)
def cutD (xs : List D) (l u : Option Int) : List D := (xs.drop (HT.sIx xs.length 0 l)).take (HT.sIx xs.length xs.length u - HT.sIx xs.length 0 l)
def sliceD : D → Option Int → Option Int → Option D
  | .tup xs, l, u => some (.tup (cutD xs l u))
  | .lst _ xs, l, u => some (.lst true (cutD xs l u))
  | _, _, _ => none
def partR : Option ME → DEnv → (Option Int → DEnv → RE) → RE
  | none, e, k => k none e
  | some m, e, k => match m e with
    | .ok (.int i) e1 => k (some i) e1
    | .ok _ _ => .no
    | .ex c d e1 => .ex c d e1
    | .no => .no
def mSl (m : ME) (lo hi : Option ME) : ME := fun e => match m e with
  | .ok d e1 => partR lo e1 fun l e2 => partR hi e2 fun u e3 => RE.of (sliceD (frz d) l u) e3
  | .ex c d e1 => .ex c d e1
  | .no => .no
def POk (X : Cx) (g : GF) (W : WX) (eo : Option Expr) : Option ME → Prop
  | none => eo = none
  | some m => ∃ e, eo = some e ∧ SE X g W e m
theorem po_n : POk X g W none none := rfl
theorem po_s (h : SE X g W a m) : POk X g W (some a) (some m) := ⟨a, rfl, h⟩
def tPo (G : GI) (W : WX) : Option ME → L2.TO
  | none => tNoPart
  | some m => tPart (RdE G W m)
theorem POk.po {eo : Option Expr} : ∀ {mo : Option ME}, POk X g W eo mo → PO X eo (tPo (gOf X g) W mo)
  | none, h => by rw [show eo = none from h]; exact po_none
  | some m, ⟨e, he, h⟩ => by rw [he]; exact po_some h
theorem part_ok {mo : Option ME} {k : Option Int → DEnv → RE} {Q : Option Int → Hp → Prop} {Q2 : VK} (s : SO G F H fp σ e) (h : EOut G W σ F H fp Q2 (partR mo e k))
    (hk : ∀ l e1 F1 H1 fp1, SO G F1 H1 fp1 σ e1 → Tr F H (own fp) F1 H1 (own fp1) → EOut G W σ F1 H1 fp1 Q2 (k l e1) → Q l H1) : tPo G W mo σ H Q := by
  cases mo with
  | none => exact hk none e F H fp s Tr.refl h
  | some m =>
    show RdE G W m σ H fun x H1 => ∃ i, x = .int i ∧ Q (some i) H1
    refine RdE.iff.mpr ⟨F, fp, e, s, ?_⟩
    have h : EOut G W σ F H fp Q2 (match m e with
      | .ok (.int i) e1 => k (some i) e1
      | .ok _ _ => .no
      | .ex c d e1 => .ex c d e1
      | .no => .no) := h
    cases q : m e with
    | ex c d e1 => rw [q] at h; exact h
    | no => rw [q] at h; exact h
    | ok d e1 =>
      rw [q] at h
      cases d with
      | int i =>
        intro v F1 H1 fp1 p s1 t1 tr1
        have hp : p = [] := t1.r.nil_of_fz rfl
        subst hp
        have ev : v = .int i := by
          cases t1.r
          rfl
        have tr2 := tr1.drop (P1 := own fp1) fun c z => .inl z
        exact ⟨i, ev, hk _ e1 F1 H1 fp1 s1 tr2 (EOut.trans h tr2)⟩
      | _ => exact h.elim
theorem se_slice {lo hi : Option Expr} {ml mh : Option ME} (ha : SE X g W a m) (hl : POk X g W lo ml) (hh : POk X g W hi mh) : SE X g W (.Subscript a (.Slice lo hi none p2) pos) (mSl m ml mh) :=
  PE.imp (pe_slice (SlR.or sl_tupA sl_list) ha.z hl.po hh.po) fun σ H Q h => by
    obtain ⟨F, fp, e, s, h⟩ := RdE.iff.mp h
    refine ⟨F, fp, e, s, ?_⟩
    unfold mSl at h
    cases q : m e with
    | ex c d e1 => rw [q] at h; exact h
    | no => rw [q] at h; exact h
    | ok d e1 =>
      rw [q] at h
      intro x F1 H1 fp1 s1 r1 tr1
      simp only at h
      have h1 := EOut.trans h tr1
      refine part_ok s1 h1 fun l e2 F2 H2 fp2 s2 tr2 h2 => part_ok s2 h2 fun u e3 F3 H3 fp3 s3 tr3 h3 => ?_
      have r3 := (r1.mono (F' := F2) (H' := H2) tr2.ff fun a z => nomatch z).mono (F' := F3) (H' := H3) tr3.ff fun a z => nomatch z
      generalize frz d = z at h3 r3
      cases z with
      | tup xs =>
        obtain ⟨A, vs, rfl, hA, rA⟩ := r3.tup_inv
        refine .inl ⟨A, vs, rfl, SqT.of (s3.sub _ _ hA), fun hf => ?_, fun _ p hp => ?_⟩
        · have hl := rA.length
          rw [hl] at hf
          have ec : cutD xs l u = xs := by
            unfold cutD
            rw [hf.1, hf.2]
            simp
          have h3 : EOut (gOf X g) W σ F3 H3 fp3 Q (.ok (.tup (cutD xs l u)) e3) := h3
          rw [ec] at h3
          exact h3 _ F3 H3 fp3 [] s3 (TO.z (.tup hA rA)) Tr.refl.nil
        · have h3 : EOut (gOf X g) W σ F3 H3 fp3 Q (.ok (.tup (cutD xs l u)) e3) := h3
          have rc := (rA.dropZ (HT.sIx xs.length 0 l)).takeZ (HT.sIx xs.length xs.length u - HT.sIx xs.length 0 l)
          have rc2 : ROs (gOf X g) F3 H3 [] (cutV vs l u) (cutD xs l u) := by
            unfold cutV cutD
            rw [rA.length]
            exact rc
          exact h3 _ _ _ fp3 [] (s3.newF hp) (TO.z (.tup upd_same (rc2.monoZ (upd_le (s3.fnone hp))))) (Tr.newF s3.sub hp).nil
      | lst o xs =>
        obtain ⟨_, A, vs, rfl, hA, rA⟩ := r3.lst_inv
        refine .inr ⟨A, vs, rfl, SqL.of (s3.sub _ _ hA), fun p hp => ?_⟩
        have h3 : EOut (gOf X g) W σ F3 H3 fp3 Q (.ok (.lst true (cutD xs l u)) e3) := h3
        have rc := (rA.dropZ (HT.sIx xs.length 0 l)).takeZ (HT.sIx xs.length xs.length u - HT.sIx xs.length 0 l)
        have rc2 : ROs (gOf X g) F3 H3 [] (cutV vs l u) (cutD xs l u) := by
          unfold cutV cutD
          rw [rA.length]
          exact rc
        refine h3 _ _ _ fp3 [p] (s3.new (o := .lst _) hp) ⟨.lo upd_same (rc2.mono (fun _ _ z => z) fun a z => nomatch z), by simp, fun c z => ?_, fun c z => ?_⟩ ((Tr.new hp).drop fun c z => ?_)
        · rw [List.mem_singleton.mp z]; exact s3.fnone hp
        · rw [List.mem_singleton.mp z]; exact s3.noown hp
        · exact z.imp id fun w => List.mem_singleton.mp w
      | _ => exact h3.elim
/-- a module's number -/
theorem se_gint {i : Int} {x : Str} (C : Cn X N sc fr) (hg : glB sc x = true) (hm : ∃ t, X.mg x = some (.int i t)) (hdb : (x == ("__debug__" : Str)) = false) : SE X g W (.Name x pos) (mC (.int i)) := by
  obtain ⟨t, hm⟩ := hm
  exact PE.imp (pe_glob (v := .int i) (gl_ok C hg) hm ⟨t, rfl⟩ hdb) fun _ _ _ h => RdE.const (fun _ _ => .int i) h
/-- f(e, ..), the last parameters by their defaults -/
theorem se_callD {C : List D → RC} {mask : List Bool} {dfl : List D} {dvs : List V} {ms : List Ar} {es : List Expr} {k : Nat} {f : Addr} {fd : FuncData} {ps : List Str} {x : Str} (tk : Takes X W)
    (FO : FnOk X.prog X.w X.K X.mg X.base (L2.CX X.prog X.w) k f fd ps (Prom (gOf X g) mask C)) (hr : Room k X.A) (hg : Gl X x) (hm : X.mg x = some (.ref f)) (hk : PySem.W.keepIn X.K (.ref f) = true) (hb : ∃ ds, Vals dvs ds ∧ Binds X.K fd ps ds)
    (hz : ∀ F H, ROs (gOf X g) F H [] dvs dfl) (ha : SA X g W (a :: es) ms) (hdb : (x == ("__debug__" : Str)) = false) (he : starEach (a :: es) X.env = (false, eval a X.env) :: starEach es X.env) (hpl : (backTo pos (starEach es X.env)).any (·.1) = false) :
    SE X g W (.Call (.Name x p2) (a :: es) [] pos) (mCall C mask dfl ms) := by
  obtain ⟨ds, hd, hb⟩ := hb
  exact se_call tk FO hr hg hm hk hb hd hz ha hdb he hpl
end
end EV

/-! EvAA: an except suite that looks at its exception: isinstance(e, C), e.f. -/
namespace EV
open PySem PySem.Spec PyProof.Rows L2
/-- the suite's name stands for the exception, its dict holds f's value -/
def BF (g : GF) (i : Nat) (a : Addr) (c : Nat) (dd : Addr) (σ : L2.St) (H : Hp) : Prop := σ[i]? = some (some (.ref a)) ∧ ∃ v, H dd = some (.xd [(g.xn c, v)])
section
variable {X : Cx} {N : List Str} {sc : Scope} {fr : List Str} {g : GF} {W : WX} {L : List Nat} {body : List Stmt} {pos p2 p3 p4 : Pos} {mb : MS} {F H F1 H1 F' H' : Hp} {fp fp1 fp' : Nat → List Addr} {σ σ1 : L2.St} {e e' : DEnv}
  {a dd : Addr} {oe : Obj} {pn : List (Addr × Obj)} {c i : Nat} {n x : Str} {b b' : Bool} {ea eb : Expr} {es : List Expr}
theorem call_isX (C : ExcC X.K (g.ca c)) (hz : Zc (.ref (g.ca c)) (some dd) oe) (hf : ∃ vs, oe.data = .fields vs) :
    CallR (X.suite a ((a, oe) :: pn)) (.builtin "isinstance") (fun xs H Q => ∃ (t : Addr) (b : Bool) (fs : List (Str × V)), xs = [.ref a, .ref t] ∧ H dd = some (.xd fs) ∧ PySem.W.kitOne X.K (.ref (g.ca c)) (.ref t) = some b ∧ Q (.bl b) H) := by
  intro pins s σ H xs us Q I r h
  obtain ⟨t, b, fs, rfl, hd, e, q⟩ := h
  cases r with
  | cons rx rr =>
    cases rr with
    | cons rt rr =>
      cases rr
      cases rx
      cases rt
      obtain ⟨hget, _⟩ := I.pin (a, oe) (List.mem_append.mpr (.inl List.mem_cons_self))
      obtain ⟨vs, hv⟩ := hf
      obtain ⟨mA, hns, _⟩ := I.hok dd _ hd
      obtain ⟨od, _, _, ho, _⟩ := hns
      have J : PySem.W.InstAt s.heap a oe (g.ca c) (some od) := ⟨hget, hz.1, by unfold PySem.W.notCls; rw [hv] <;> rfl, by rw [hz.2]; exact ho⟩
      have hcl : (PySem.W.clsIn X.K (g.ca c)).isSome = true := by
        obtain ⟨cd, hc, _⟩ := PySem.W.any_some C.hd
        rw [hc]; rfl
      exact PySem.W.kia_one (PySem.W.kitx_exc hcl C.hg C.hk C.hs C.ha C.hn C.ht C.hm) I.kIn J e (fun z => nomatch z) fun tk => ⟨.bl b, H, I.kept (t' := tk) fun _ _ z => z, rfl, q⟩
/-- a test of the suite whose truth is known -/
def GT (X : Cx) (g : GF) (i : Nat) (a : Addr) (c : Nat) (dd : Addr) (e : Expr) (b : Bool) : Prop := PT X e (fun σ H Q => BF g i a c dd σ H ∧ Q b H)
def GW (X : Cx) (g : GF) (i : Nat) (a : Addr) (c : Nat) (dd : Addr) (e : Expr) (b : Bool) : Prop := PW X e (fun σ H Q => BF g i a c dd σ H ∧ Q b H)
theorem gt_is {cc : Nat} (C : ExcC X.K (g.ca c)) (hz : Zc (.ref (g.ca c)) (some dd) oe) (hf : ∃ vs, oe.data = .fields vs) (h1 : Gl X "isinstance") (h2 : X.mg "isinstance" = none) (hg : Gl X x) (hm : X.mg x = some (.ref (g.ca cc)))
    (hN : X.N[i]? = some n) (hv : Vis X.env.scope n) (hnd : (n == ("__debug__" : Str)) = false) (hnc : (n == ("__classdict__" : Str)) = false) (hk : PySem.W.kitOne X.K (.ref (g.ca c)) (.ref (g.ca cc)) = some b) (hxd : (x == ("__debug__" : Str)) = false)
    (he : starEach [.Name n p2, .Name x p3] X.env = (false, eval (.Name n p2) X.env) :: starEach [.Name x p3] X.env) (he2 : starEach [.Name x p3] X.env = (false, eval (.Name x p3) X.env) :: starEach [] X.env) (hpl : (backTo pos (starEach [.Name x p3] X.env)).any (·.1) = false)
    (ht : ∀ whole, isTrue (.Call (.Name "isinstance" p4) [.Name n p2, .Name x p3] [] pos) X.env whole = (do let v ← whole; standAt (Expr.Call (.Name "isinstance" p4) [.Name n p2, .Name x p3] [] pos).pos; holding [v] (truthy v))) :
    GT (X.suite a ((a, oe) :: pn)) g i a c dd (.Call (.Name "isinstance" p4) [.Name n p2, .Name x p3] [] pos) b := by
  have p1 := pe_callB (call_isX (g := g) (pn := pn) (a := a) C hz hf) (x := "isinstance") (p := p4) (pos := pos) h1 h2 (by decide +kernel) (pa_cons (pe_var hN hv hnd hnc) (pa_cons (pe_glob (v := .ref (g.ca cc)) hg hm rfl hxd) pa_nil he2) he) (by decide) (by decide) he hpl
  refine PT.imp (pt_truth p1 ht) fun σ H Q h => ?_
  obtain ⟨⟨h3, v, h4⟩, h5⟩ := h
  exact ⟨.ref a, h3, g.ca cc, b, _, rfl, h4, hk, b, rfl, h5⟩
theorem gt_not (h : GT X g i a c dd ea b) : GT X g i a c dd (.UnaryOp .Not ea pos) (!b) := PT.imp (pt_not h) fun σ H Q z => z
theorem gw_or1 (h : GT X g i a c dd ea b) : GW X g i a c dd (.BoolOp .Or [ea] pos) b := pw_or1 h
theorem gw_or (h : GT X g i a c dd ea b) (h2 : GW X g i a c dd (.BoolOp .Or (eb :: es) pos) b') : GW X g i a c dd (.BoolOp .Or (ea :: eb :: es) pos) (b || b') := PW.imp (pw_or h h2) fun σ H Q z => by
  cases b with
  | true => exact ⟨z.1, z.2⟩
  | false => exact ⟨z.1, z⟩
theorem gt_bool (h : GW X g i a c dd ea b) : GT X g i a c dd ea b := h.pt
/-- a guard that lets through -/
theorem g_if {t : TS} {st : List Stmt} (h : GT X g i a c dd ea b) (hb : b = false) (hs : PSs X st t) : PS X (.If ea st [] pos) (fun D σ H => BF g i a c dd σ H ∧ D.nx σ H) := by
  subst hb
  exact PS.imp (ps_if h hs pss_nil) fun D σ H z => z
theorem g_cons {t : TS} {st : Stmt} {rest : List Stmt} (h : PS X st (fun D σ H => BF g i a c dd σ H ∧ D.nx σ H)) (hr : PSs X rest (fun D σ H => BF g i a c dd σ H ∧ t D σ H)) : PSs X (st :: rest) (fun D σ H => BF g i a c dd σ H ∧ t D σ H) :=
  PSs.imp (pss_cons h hr) fun D σ H z => ⟨z.1, z⟩
/-- what the last row of the suite wishes -/
def tTell (g : GF) (c : Nat) (dd : Addr) (sr : Str) : TS := fun D σ H => ∀ v, H dd = some (.xd [(g.xn c, v)]) → ∀ p, H p = none → D.rt (.ref p) (upd H p (.tup [.str sr, v]))
theorem g_tell {fl sr : Str} {p5 p6 p7 p8 p9 : Pos} {kt jt : Nat} (T : XfC X.K (g.ca c)) (no : PySem.W.findIn X.K (.ref (g.ca c)) fl = some none) (hfl : g.xn c = fl) (hz : Zc (.ref (g.ca c)) (some dd) oe) (hf : ∃ vs, oe.data = .fields vs)
    (hN : X.N[i]? = some n) (hv : Vis X.env.scope n) (hnd : (n == ("__debug__" : Str)) = false) (hnc : (n == ("__classdict__" : Str)) = false)
    (hab : attributeBase (.Name n p8) fl X.env (eval (.Name n p8) X.env) = eval (.Name n p8) X.env)
    (hse : starEach [.Constant (.str sr) jt p6, .Attribute (.Name n p8) fl p7] X.env = (false, eval (.Constant (.str sr) jt p6) X.env) :: starEach [.Attribute (.Name n p8) fl p7] X.env)
    (hse2 : starEach [.Attribute (.Name n p8) fl p7] X.env = (false, eval (.Attribute (.Name n p8) fl p7) X.env) :: starEach [] X.env) :
    PSs (X.suite a ((a, oe) :: pn)) [.Return (some (.Tuple [.Constant (.str sr) jt p6, .Attribute (.Name n p8) fl p7] kt p5)) p9] (fun D σ H => BF g i a c dd σ H ∧ tTell g c dd sr D σ H) := by
  subst hfl
  refine PSs.imp (pss_cons (ps_ret (pe_tup (pa_cons pe_str (pa_cons (pe_xf T no hz hf (pe_var hN hv hnd hnc) hab) pa_nil hse2) hse))) pss_nil) fun D σ H h => ?_
  obtain ⟨⟨h3, v, h4⟩, h5⟩ := h
  refine ⟨.ref a, h3, rfl, rfl, dd, [(g.xn c, v)], v, rfl, h4, ?_, by rw [sizeLine_eq]; show (2 : Nat) ≤ _; decide, fun p' hp' => h5 v h4 p' hp'⟩
  rw [List.lookup_cons, beq_self_eq_true]
/-- try: body; except C as n: guards, then return ('s', n.f) -/
def mTryS (i : Nat) (cg : Nat → Option Bool) (al : Nat → Bool) (s : Str) (mb : MS) : MS := fun e => match mb e with
  | .ex c d e1 => match cg c with
    | some true => if fz d = true ∧ i < e1.length ∧ al c = true then .rt (.tup [.str s, d]) (e1.set i none) else .no
    | some false => .ex c d e1
    | none => .no
  | r => r
theorem ss_tryS {cc : Nat} {sr : Str} {cg : Nat → Option Bool} {al : Nat → Bool} {b₀ : Stmt} {suite : List Stmt} (C : Cf X W N sc fr) (hg : glB sc x = true) (hm : X.mg x = some (.ref (g.ca cc))) (hdb : (x == ("__debug__" : Str)) = false)
    (hn : locL N sc i n = true) (hL : i ∉ L)
    (hc : ∀ c b, cg c = some b → PySem.W.exmOne X.K (.ref (g.ca c)) (.ref (g.ca cc)) = some b)
    (hb : ∀ (pn : List (Addr × Obj)) (xe : Value → Shared → Prop) (W' : WX), Cf (X.tr pn xe) W' N sc fr → SSs (X.tr pn xe) g W' L body mb)
    (hs : ∀ (c : Nat) (a dd : Addr) (oe : Obj) (pn : List (Addr × Obj)), cg c = some true → al c = true → Zc (.ref (g.ca c)) (some dd) oe → (∃ vs, oe.data = .fields vs) → PSs (X.suite a ((a, oe) :: pn)) (b₀ :: suite) (fun D σ H => BF g i a c dd σ H ∧ tTell g c dd sr D σ H)) :
    SS X g W L (.Try body [.ExceptHandler (some (.Name x p2)) (some n) (b₀ :: suite) p3] [] [] pos) (mTryS i cg al sr mb) := by
  have hl : X.N[i]? = some n ∧ X.env.kindOf n = some .local := locL_ok C.toCn hn
  refine PS.imp (ps_try_as (i := i) (tb := fun W' => RdS (gOf X g) W' L mb) (ts := fun a cls d => fun D σ H => ∃ (c : Nat) (dd : Addr), cg c = some true ∧ al c = true ∧ cls = .ref (g.ca c) ∧ d = some dd ∧ BF g i a c dd σ H ∧ tTell g c dd sr D σ H)
    C.stk C.frm C.nd' hl.1 hl.2 ⟨gl_ok C.toCn hg, hdb, .inl hm⟩ C.tk (fun W' pn xe tk po => hb pn xe W' (C.toTry tk po)) (fun a oe cls d pn hz hf => ⟨fun pins s σ H D I ⟨c, dd, hcg, hal, ec, ed, h⟩ => ?_⟩)) fun D σ H ⟨F, fp, e, s, h⟩ => ?_
  · subst ec ed
    exact (hs c a dd oe pn hcg hal hz hf).run pins s σ H D I h
  · refine ⟨F, fp, e, s, ?_⟩
    unfold mTryS at h
    cases q : mb e with
    | nx e1 => rw [q] at h; exact h
    | rt d e1 => rw [q] at h; exact h
    | bk e1 => rw [q] at h; exact h
    | ct e1 => rw [q] at h; exact h
    | no => rw [q] at h; exact h
    | ex c d e1 =>
      rw [q] at h
      simp only at h
      intro dx v σ' F' H' fp' p s' l' t' tr hx2
      cases q2 : cg c with
      | none => rw [q2] at h; exact h.elim
      | some b =>
        rw [q2] at h
        refine ⟨b, hc c b q2, fun hb a ha => ?_, fun hb => ?_⟩
        · subst hb
          simp only at h
          split at h
          · rename_i hz
            obtain ⟨hz, hi0, hal⟩ := hz
            have hi : i < σ'.length := by rw [s'.len]; exact hi0
            refine ⟨c, dx, q2, hal, rfl, rfl, ⟨List.getElem?_set_self hi, v, hx2⟩, fun v2 hv2 p' hp' => ?_⟩
            have ev : v2 = v := by
              have hx3 := hx2
              rw [hv2] at hx3
              simpa using hx3
            subst ev
            have s2 := (s'.forget (i := i)).newF (o := .tup [.str sr, v2]) hp'
            have hp0 : p = [] := t'.r.nil_of_fz hz
            subst hp0
            have rd : RO (gOf X g) (upd F' p' (.tup [.str sr, v2])) (upd H' p' (.tup [.str sr, v2])) [] v2 d := t'.r.monoZ (upd_le (s'.fnone hp'))
            refine h (.ref p') σ' _ _ _ [] s2 l' (TO.z (.tup upd_same (ROs.consZ (.str sr) (ROs.consZ rd .nil)))) ?_
            refine (tr.trans (Tr.newF s'.sub hp')).weak (fun _ z => z) fun c z => ?_
            rcases z with z | z
            · exact .inl (.inl (own_take c (.inl z)))
            · cases z
          · exact h.elim
        · subst hb
          exact h dx v σ' F' H' fp' p s' l' t' tr hx2
theorem atL0 {st : List Stmt} {m : MS} (h : SSs X g W [] st m) : SSs X g W [] st m := h
end
end EV

/-! EvBB: the plain functions reckoned out, more of them. -/
namespace EV
open PySem PySem.Spec L2
section
variable {m n t : ME} {ms ns : MS} {e e1 : DEnv} {d : D} {oa ob : Op} {i k : Nat}
@[simp] theorem ap_raise {c : Nat} : mRaise c m e = (m e).toS fun d e1 => .ex c d e1 := by
  unfold mRaise RE.toS
  cases m e <;> rfl
@[simp] theorem ap_tryO {cg : Nat → Option Bool} : mTryO cg ms ns e = match ms e with
  | .ex c d e1 => match cg c with
    | some true => noEx (ns e1)
    | some false => .ex c d e1
    | none => .no
  | r => r := rfl
@[simp] theorem ap_tryS {cg : Nat → Option Bool} {al : Nat → Bool} {s : Str} : mTryS i cg al s ms e = match ms e with
  | .ex c d e1 => match cg c with
    | some true => if fz d = true ∧ i < e1.length ∧ al c = true then .rt (.tup [.str s, d]) (e1.set i none) else .no
    | some false => .ex c d e1
    | none => .no
  | r => r := rfl
@[simp] theorem noEx_nx : noEx (.nx e) = .nx e := rfl
@[simp] theorem noEx_rt : noEx (.rt d e) = .rt d e := rfl
@[simp] theorem noEx_no : noEx .no = .no := rfl
@[simp] theorem ap_enum : mEnum m e = match m e with
  | .ok d e1 => match enumD (frz d) with
    | some ds => .ok ds none e1
    | none => .no
  | .ex c d e1 => .ex c d e1
  | .no => .no := rfl
@[simp] theorem en_tup {xs : List D} : enumD (.tup xs) = some (numD 0 xs) := rfl
@[simp] theorem en_lst {o : Bool} {xs : List D} : enumD (.lst o xs) = some (numD 0 xs) := rfl
@[simp] theorem ap_sl {ml mh : Option ME} : mSl m ml mh e = match m e with
  | .ok d e1 => partR ml e1 fun l e2 => partR mh e2 fun u e3 => RE.of (sliceD (frz d) l u) e3
  | .ex c d e1 => .ex c d e1
  | .no => .no := rfl
@[simp] theorem part_n {f : Option Int → DEnv → RE} : partR none e f = f none e := rfl
@[simp] theorem part_s {f : Option Int → DEnv → RE} : partR (some m) e f = match m e with
    | .ok (.int i) e1 => f (some i) e1
    | .ok _ _ => .no
    | .ex c d e1 => .ex c d e1
    | .no => .no := by
  unfold partR
  rfl
@[simp] theorem sl_tupD {xs : List D} {l u : Option Int} : sliceD (.tup xs) l u = some (.tup (cutD xs l u)) := rfl
@[simp] theorem sl_lstD {o : Bool} {xs : List D} {l u : Option Int} : sliceD (.lst o xs) l u = some (.lst true (cutD xs l u)) := rfl
theorem cut_to {xs : List D} {k : Nat} (h : k ≤ xs.length) : cutD xs none (some (k : Nat)) = xs.take k := by
  unfold cutD
  rw [HT.sIx_none, HT.sIx_nat, List.drop_zero, Nat.min_eq_left h, Nat.sub_zero]
theorem cut_from {xs : List D} {k : Nat} (h : k ≤ xs.length) : cutD xs (some (k : Nat)) none = xs.drop k := by
  unfold cutD
  rw [HT.sIx_none, HT.sIx_nat, Nat.min_eq_left h]
  exact List.take_of_length_le (by rw [List.length_drop]; exact Nat.le_refl _)
theorem numD_nth {xs : List D} {k : Nat} {d : D} (h : (numD 0 xs)[k]? = some d) : ∃ x, xs[k]? = some x ∧ d = .tup [.int (k : Nat), x] := by
  obtain ⟨x, h1, h2⟩ := numD_get h
  exact ⟨x, h1, by rw [h2, Nat.zero_add]⟩
@[simp] theorem is_int_tup {a : List D} : isiD .int (.tup a) = some false := rfl
@[simp] theorem is_int_lst {o : Bool} {a : List D} : isiD .int (.lst o a) = some false := rfl
@[simp] theorem is_bool_non : isiD .bool .non = some false := rfl
@[simp] theorem is_bool_str {a : Str} : isiD .bool (.str a) = some false := rfl
@[simp] theorem is_bool_tup {a : List D} : isiD .bool (.tup a) = some false := rfl
@[simp] theorem is_bool_lst {o : Bool} {a : List D} : isiD .bool (.lst o a) = some false := rfl
@[simp] theorem is_str_non : isiD .str .non = some false := rfl
@[simp] theorem is_str_int {a : Int} : isiD .str (.int a) = some false := rfl
@[simp] theorem is_str_bl {a : Bool} : isiD .str (.bl a) = some false := rfl
@[simp] theorem is_str_tup {a : List D} : isiD .str (.tup a) = some false := rfl
@[simp] theorem is_str_lst {o : Bool} {a : List D} : isiD .str (.lst o a) = some false := rfl
@[simp] theorem mZs_nil {e : DEnv} : mZs [] e = .ok [] e := rfl
@[simp] theorem mZs_cons {m : ME} {ms : List ME} {e : DEnv} : mZs (m :: ms) e = match m e with
    | .ok d e1 => match mZs ms e1 with
      | .ok ds e2 => .ok (frz d :: ds) e2
      | .ex c d e2 => .ex c d e2
      | .no => .no
    | .ex c d e1 => .ex c d e1
    | .no => .no := rfl
@[simp] theorem ap_callK {C : List D → RC} {dfl : List D} {src : List KS} {ms : List ME} {e : DEnv} : mCallK C dfl src ms e = match mZs ms e with
  | .ok ds e1 => match C (genL .non dfl src ds) with
    | .ok d _ => .ok d e1
    | .ex c d _ => .ex c d e1
    | .no => .no
  | .ex c d e1 => .ex c d e1
  | .no => .no := rfl
@[simp] theorem RA_cons_ex {a : PA1} {c : Nat} {d : D} {e : DEnv} : RA.cons a (.ex c d e) = .ex c d e := rfl
@[simp] theorem RA_cons_no {a : PA1} : RA.cons a .no = .no := rfl
@[simp] theorem RA_fin_ex {c : Nat} {d : D} {e : DEnv} {k : List D → DEnv → RE} : RA.fin (.ex c d e) k = .ex c d e := rfl
@[simp] theorem RA_fin_no {k : List D → DEnv → RE} : RA.fin .no k = .no := rfl
@[simp] theorem ad_lst {o o2 : Bool} {xs ys : List D} : addD (.lst o xs) (.lst o2 ys) = if xs.length + ys.length ≤ LIM then some (.lst true (xs ++ ys)) else none := rfl
@[simp] theorem ad_tup {xs ys : List D} : addD (.tup xs) (.tup ys) = if xs.length + ys.length ≤ LIM then some (.tup (xs ++ ys)) else none := rfl
/-- data that isinstance answers -/
def okV : D → Bool
  | .non => true
  | .bl _ => true
  | .int _ => true
  | .str _ => true
  | .tup _ => true
  | .lst _ _ => true
  | _ => false
end
end EV

namespace LW
open PySem PySem.Spec PyProof.Rows L2 EV
def top (i : Nat) : Stmt := PySem.Challenge.pw_fairanyprice_k15_what_are_prices.main.body.getD i (.Pass ⟨0, 0, 0, 0⟩)
def g0 (K : PySem.W.Frag) : GF := ⟨fun _ => 0, fun c => match c with
  | 0 => He.ga K "OwnError"
  | 1 => He.ga K "BadFraction"
  | 2 => He.ga K "BadPoint"
  | 3 => He.ga K "BadMarked"
  | 4 => He.ga K "BadPrices"
  | 5 => He.ga K "Refused"
  | _ => 0, fun c => match c with
  | 1 => "at"
  | 2 => "at"
  | 3 => "at"
  | 4 => "at"
  | 5 => "value"
  | _ => ""⟩
def k1 : ClD := ⟨"BadFraction", "BadFraction.__init__", "at", "at", (clFn (top 2)).1, (clFn (top 2)).2⟩
theorem kok1 : SupOk k1 := ⟨_, _, _, _, _, _, _, _, _, _, _, _, _, rfl, rfl, rfl, rfl, by decide, by decide, rfl, rfl, rfl, fun _ _ _ _ _ _ _ _ _ => rfl⟩
def k2 : ClD := ⟨"BadPoint", "BadPoint.__init__", "at", "at", (clFn (top 3)).1, (clFn (top 3)).2⟩
theorem kok2 : SupOk k2 := ⟨_, _, _, _, _, _, _, _, _, _, _, _, _, rfl, rfl, rfl, rfl, by decide, by decide, rfl, rfl, rfl, fun _ _ _ _ _ _ _ _ _ => rfl⟩
def k3 : ClD := ⟨"BadMarked", "BadMarked.__init__", "at", "at", (clFn (top 4)).1, (clFn (top 4)).2⟩
theorem kok3 : SupOk k3 := ⟨_, _, _, _, _, _, _, _, _, _, _, _, _, rfl, rfl, rfl, rfl, by decide, by decide, rfl, rfl, rfl, fun _ _ _ _ _ _ _ _ _ => rfl⟩
def k4 : ClD := ⟨"BadPrices", "BadPrices.__init__", "at", "at", (clFn (top 5)).1, (clFn (top 5)).2⟩
theorem kok4 : SupOk k4 := ⟨_, _, _, _, _, _, _, _, _, _, _, _, _, rfl, rfl, rfl, rfl, by decide, by decide, rfl, rfl, rfl, fun _ _ _ _ _ _ _ _ _ => rfl⟩
def k5 : ClD := ⟨"Refused", "Refused.__init__", "value", "value", (clFn (top 6)).1, (clFn (top 6)).2⟩
theorem kok5 : SupOk k5 := ⟨_, _, _, _, _, _, _, _, _, _, _, _, _, rfl, rfl, rfl, rfl, by decide, by decide, rfl, rfl, rfl, fun _ _ _ _ _ _ _ _ _ => rfl⟩
def FR : List Str := ["super", "len", "abs", "int", "tuple", "list", "max", "min", "isinstance", "range", "zip", "enumerate", "bool", "str"]
theorem fr_super : ("super" : Str) ∈ FR := by decide +kernel
theorem fr_len : ("len" : Str) ∈ FR := by decide +kernel
theorem fr_abs : ("abs" : Str) ∈ FR := by decide +kernel
theorem fr_int : ("int" : Str) ∈ FR := by decide +kernel
theorem fr_tuple : ("tuple" : Str) ∈ FR := by decide +kernel
theorem fr_list : ("list" : Str) ∈ FR := by decide +kernel
theorem fr_max : ("max" : Str) ∈ FR := by decide +kernel
theorem fr_min : ("min" : Str) ∈ FR := by decide +kernel
theorem fr_isinstance : ("isinstance" : Str) ∈ FR := by decide +kernel
theorem fr_range : ("range" : Str) ∈ FR := by decide +kernel
theorem fr_zip : ("zip" : Str) ∈ FR := by decide +kernel
theorem fr_enumerate : ("enumerate" : Str) ∈ FR := by decide +kernel
theorem fr_bool : ("bool" : Str) ∈ FR := by decide +kernel
theorem fr_str : ("str" : Str) ∈ FR := by decide +kernel
def d8 : He.DefD := ⟨("is_int", none), "is_int", "is_int", defArgs (top 8), defBody (top 8), defScope (top 8), [], []⟩
def d9 : He.DefD := ⟨("is_number", none), "is_number", "is_number", defArgs (top 9), defBody (top 9), defScope (top 9), [.int 0, .non], []⟩
def d10 : He.DefD := ⟨("is_tuple", none), "is_tuple", "is_tuple", defArgs (top 10), defBody (top 10), defScope (top 10), [.non], []⟩
def d12 : He.DefD := ⟨("common_part", none), "common_part", "common_part", defArgs (top 12), defBody (top 12), defScope (top 12), [], []⟩
def d13 : He.DefD := ⟨("check_fraction", none), "check_fraction", "check_fraction", defArgs (top 13), defBody (top 13), defScope (top 13), [], []⟩
def d14 : He.DefD := ⟨("is_least", none), "is_least", "is_least", defArgs (top 14), defBody (top 14), defScope (top 14), [], []⟩
def d16 : He.DefD := ⟨("first_marks", none), "first_marks", "first_marks", defArgs (top 16), defBody (top 16), defScope (top 16), [], []⟩
def d17 : He.DefD := ⟨("marks_many", none), "marks_many", "marks_many", defArgs (top 17), defBody (top 17), defScope (top 17), [], []⟩
def d19 : He.DefD := ⟨("check_prices", none), "check_prices", "check_prices", defArgs (top 19), defBody (top 19), defScope (top 19), [], []⟩
def d21 : He.DefD := ⟨("_law_box", none), "_law_box", "_law_box", defArgs (top 21), defBody (top 21), defScope (top 21), [], []⟩
def d22 : He.DefD := ⟨("_law_take", none), "_law_take", "_law_take", defArgs (top 22), defBody (top 22), defScope (top 22), [], []⟩
def d23 : He.DefD := ⟨("_law_pick", none), "_law_pick", "_law_pick", defArgs (top 23), defBody (top 23), defScope (top 23), [], []⟩
def d24 : He.DefD := ⟨("_law_same", none), "_law_same", "_law_same", defArgs (top 24), defBody (top 24), defScope (top 24), [], []⟩
def d25 : He.DefD := ⟨("_law_gcd", none), "_law_gcd", "_law_gcd", defArgs (top 25), defBody (top 25), defScope (top 25), [], []⟩
def d26 : He.DefD := ⟨("_law_lowest", none), "_law_lowest", "_law_lowest", defArgs (top 26), defBody (top 26), defScope (top 26), [], []⟩
def d27 : He.DefD := ⟨("_law_marks", none), "_law_marks", "_law_marks", defArgs (top 27), defBody (top 27), defScope (top 27), [], []⟩
def d28 : He.DefD := ⟨("_law_ring", none), "_law_ring", "_law_ring", defArgs (top 28), defBody (top 28), defScope (top 28), [], []⟩
def d29 : He.DefD := ⟨("_law_set", none), "_law_set", "_law_set", defArgs (top 29), defBody (top 29), defScope (top 29), [], []⟩
def d30 : He.DefD := ⟨("_law_great", none), "_law_great", "_law_great", defArgs (top 30), defBody (top 30), defScope (top 30), [], []⟩
def d31 : He.DefD := ⟨("_law_odd", none), "_law_odd", "_law_odd", defArgs (top 31), defBody (top 31), defScope (top 31), [], []⟩
def d32 : He.DefD := ⟨("_law_told", none), "_law_told", "_law_told", defArgs (top 32), defBody (top 32), defScope (top 32), [], []⟩
def d33 : He.DefD := ⟨("_law_right", none), "_law_right", "_law_right", defArgs (top 33), defBody (top 33), defScope (top 33), [], []⟩
def d34 : He.DefD := ⟨("law", none), "law", "law", defArgs (top 34), defBody (top 34), defScope (top 34), [], []⟩
structure Dn (P : Program) (w : World) (K : PySem.W.Frag) (mg : Str → Option Value) (fd : Nat → FuncData) : Prop where
  f8 : FunD K d8.name d8.qual d8.params d8.body d8.scope (d8.dvs K) (d8.kws K) (He.fAd K d8.at_) (fd 8)
  m8 : mg "is_int" = some (.ref (He.fAd K d8.at_))
  f9 : FunD K d9.name d9.qual d9.params d9.body d9.scope (d9.dvs K) (d9.kws K) (He.fAd K d9.at_) (fd 9)
  m9 : mg "is_number" = some (.ref (He.fAd K d9.at_))
  f10 : FunD K d10.name d10.qual d10.params d10.body d10.scope (d10.dvs K) (d10.kws K) (He.fAd K d10.at_) (fd 10)
  m10 : mg "is_tuple" = some (.ref (He.fAd K d10.at_))
  f12 : FunD K d12.name d12.qual d12.params d12.body d12.scope (d12.dvs K) (d12.kws K) (He.fAd K d12.at_) (fd 12)
  m12 : mg "common_part" = some (.ref (He.fAd K d12.at_))
  f13 : FunD K d13.name d13.qual d13.params d13.body d13.scope (d13.dvs K) (d13.kws K) (He.fAd K d13.at_) (fd 13)
  m13 : mg "check_fraction" = some (.ref (He.fAd K d13.at_))
  f14 : FunD K d14.name d14.qual d14.params d14.body d14.scope (d14.dvs K) (d14.kws K) (He.fAd K d14.at_) (fd 14)
  m14 : mg "is_least" = some (.ref (He.fAd K d14.at_))
  f16 : FunD K d16.name d16.qual d16.params d16.body d16.scope (d16.dvs K) (d16.kws K) (He.fAd K d16.at_) (fd 16)
  m16 : mg "first_marks" = some (.ref (He.fAd K d16.at_))
  f17 : FunD K d17.name d17.qual d17.params d17.body d17.scope (d17.dvs K) (d17.kws K) (He.fAd K d17.at_) (fd 17)
  m17 : mg "marks_many" = some (.ref (He.fAd K d17.at_))
  f19 : FunD K d19.name d19.qual d19.params d19.body d19.scope (d19.dvs K) (d19.kws K) (He.fAd K d19.at_) (fd 19)
  m19 : mg "check_prices" = some (.ref (He.fAd K d19.at_))
  f21 : FunD K d21.name d21.qual d21.params d21.body d21.scope (d21.dvs K) (d21.kws K) (He.fAd K d21.at_) (fd 21)
  m21 : mg "_law_box" = some (.ref (He.fAd K d21.at_))
  f22 : FunD K d22.name d22.qual d22.params d22.body d22.scope (d22.dvs K) (d22.kws K) (He.fAd K d22.at_) (fd 22)
  m22 : mg "_law_take" = some (.ref (He.fAd K d22.at_))
  f23 : FunD K d23.name d23.qual d23.params d23.body d23.scope (d23.dvs K) (d23.kws K) (He.fAd K d23.at_) (fd 23)
  m23 : mg "_law_pick" = some (.ref (He.fAd K d23.at_))
  f24 : FunD K d24.name d24.qual d24.params d24.body d24.scope (d24.dvs K) (d24.kws K) (He.fAd K d24.at_) (fd 24)
  m24 : mg "_law_same" = some (.ref (He.fAd K d24.at_))
  f25 : FunD K d25.name d25.qual d25.params d25.body d25.scope (d25.dvs K) (d25.kws K) (He.fAd K d25.at_) (fd 25)
  m25 : mg "_law_gcd" = some (.ref (He.fAd K d25.at_))
  f26 : FunD K d26.name d26.qual d26.params d26.body d26.scope (d26.dvs K) (d26.kws K) (He.fAd K d26.at_) (fd 26)
  m26 : mg "_law_lowest" = some (.ref (He.fAd K d26.at_))
  f27 : FunD K d27.name d27.qual d27.params d27.body d27.scope (d27.dvs K) (d27.kws K) (He.fAd K d27.at_) (fd 27)
  m27 : mg "_law_marks" = some (.ref (He.fAd K d27.at_))
  f28 : FunD K d28.name d28.qual d28.params d28.body d28.scope (d28.dvs K) (d28.kws K) (He.fAd K d28.at_) (fd 28)
  m28 : mg "_law_ring" = some (.ref (He.fAd K d28.at_))
  f29 : FunD K d29.name d29.qual d29.params d29.body d29.scope (d29.dvs K) (d29.kws K) (He.fAd K d29.at_) (fd 29)
  m29 : mg "_law_set" = some (.ref (He.fAd K d29.at_))
  f30 : FunD K d30.name d30.qual d30.params d30.body d30.scope (d30.dvs K) (d30.kws K) (He.fAd K d30.at_) (fd 30)
  m30 : mg "_law_great" = some (.ref (He.fAd K d30.at_))
  f31 : FunD K d31.name d31.qual d31.params d31.body d31.scope (d31.dvs K) (d31.kws K) (He.fAd K d31.at_) (fd 31)
  m31 : mg "_law_odd" = some (.ref (He.fAd K d31.at_))
  f32 : FunD K d32.name d32.qual d32.params d32.body d32.scope (d32.dvs K) (d32.kws K) (He.fAd K d32.at_) (fd 32)
  m32 : mg "_law_told" = some (.ref (He.fAd K d32.at_))
  f33 : FunD K d33.name d33.qual d33.params d33.body d33.scope (d33.dvs K) (d33.kws K) (He.fAd K d33.at_) (fd 33)
  m33 : mg "_law_right" = some (.ref (He.fAd K d33.at_))
  f34 : FunD K d34.name d34.qual d34.params d34.body d34.scope (d34.dvs K) (d34.kws K) (He.fAd K d34.at_) (fd 34)
  m34 : mg "law" = some (.ref (He.fAd K d34.at_))
  fr : ∀ x ∈ FR, mg x = none
  mx0 : mg "OwnError" = some (.ref ((g0 K).ca 0))
  mx1 : mg "BadFraction" = some (.ref ((g0 K).ca 1))
  x1 : ExK P w K mg (g0 K) 1 "BadFraction"
  xf1 : XfC K ((g0 K).ca 1)
  xe1 : ExcC K ((g0 K).ca 1)
  xo1 : PySem.W.findIn K (.ref ((g0 K).ca 1)) "at" = some none
  mx2 : mg "BadPoint" = some (.ref ((g0 K).ca 2))
  x2 : ExK P w K mg (g0 K) 2 "BadPoint"
  xf2 : XfC K ((g0 K).ca 2)
  xe2 : ExcC K ((g0 K).ca 2)
  xo2 : PySem.W.findIn K (.ref ((g0 K).ca 2)) "at" = some none
  mx3 : mg "BadMarked" = some (.ref ((g0 K).ca 3))
  x3 : ExK P w K mg (g0 K) 3 "BadMarked"
  xf3 : XfC K ((g0 K).ca 3)
  xe3 : ExcC K ((g0 K).ca 3)
  xo3 : PySem.W.findIn K (.ref ((g0 K).ca 3)) "at" = some none
  mx4 : mg "BadPrices" = some (.ref ((g0 K).ca 4))
  x4 : ExK P w K mg (g0 K) 4 "BadPrices"
  xf4 : XfC K ((g0 K).ca 4)
  xe4 : ExcC K ((g0 K).ca 4)
  xo4 : PySem.W.findIn K (.ref ((g0 K).ca 4)) "at" = some none
  mx5 : mg "Refused" = some (.ref ((g0 K).ca 5))
  x5 : ExK P w K mg (g0 K) 5 "Refused"
  xf5 : XfC K ((g0 K).ca 5)
  xe5 : ExcC K ((g0 K).ca 5)
  xo5 : PySem.W.findIn K (.ref ((g0 K).ca 5)) "value" = some none
  em1_1 : PySem.W.exmOne K (.ref ((g0 K).ca 1)) (.ref ((g0 K).ca 1)) = some true
  em2_1 : PySem.W.exmOne K (.ref ((g0 K).ca 2)) (.ref ((g0 K).ca 1)) = some false
  em3_1 : PySem.W.exmOne K (.ref ((g0 K).ca 3)) (.ref ((g0 K).ca 1)) = some false
  em4_1 : PySem.W.exmOne K (.ref ((g0 K).ca 4)) (.ref ((g0 K).ca 1)) = some false
  em5_1 : PySem.W.exmOne K (.ref ((g0 K).ca 5)) (.ref ((g0 K).ca 1)) = some false
  em1_0 : PySem.W.exmOne K (.ref ((g0 K).ca 1)) (.ref ((g0 K).ca 0)) = some true
  em2_0 : PySem.W.exmOne K (.ref ((g0 K).ca 2)) (.ref ((g0 K).ca 0)) = some true
  em3_0 : PySem.W.exmOne K (.ref ((g0 K).ca 3)) (.ref ((g0 K).ca 0)) = some true
  em4_0 : PySem.W.exmOne K (.ref ((g0 K).ca 4)) (.ref ((g0 K).ca 0)) = some true
  em5_0 : PySem.W.exmOne K (.ref ((g0 K).ca 5)) (.ref ((g0 K).ca 0)) = some true
  kt4_5 : PySem.W.kitOne K (.ref ((g0 K).ca 4)) (.ref ((g0 K).ca 5)) = some false
  kt4_3 : PySem.W.kitOne K (.ref ((g0 K).ca 4)) (.ref ((g0 K).ca 3)) = some false
  kt4_2 : PySem.W.kitOne K (.ref ((g0 K).ca 4)) (.ref ((g0 K).ca 2)) = some false
  kt4_1 : PySem.W.kitOne K (.ref ((g0 K).ca 4)) (.ref ((g0 K).ca 1)) = some false
  kt4_4 : PySem.W.kitOne K (.ref ((g0 K).ca 4)) (.ref ((g0 K).ca 4)) = some true
def cg_1 : Nat → Option Bool
  | 1 => some true
  | 2 => some false
  | 3 => some false
  | 4 => some false
  | 5 => some false
  | _ => none
theorem cg_ok_1 {P : Program} {w : World} {K : PySem.W.Frag} {mg : Str → Option Value} {fd : Nat → FuncData} (T : Dn P w K mg fd) (c : Nat) (b : Bool) (h : cg_1 c = some b) : PySem.W.exmOne K (.ref ((g0 K).ca c)) (.ref ((g0 K).ca 1)) = some b := by
  unfold cg_1 at h
  split at h
  · injection h with h; subst h; exact T.em1_1
  · injection h with h; subst h; exact T.em2_1
  · injection h with h; subst h; exact T.em3_1
  · injection h with h; subst h; exact T.em4_1
  · injection h with h; subst h; exact T.em5_1
  · cases h
def cg_0 : Nat → Option Bool
  | 1 => some true
  | 2 => some true
  | 3 => some true
  | 4 => some true
  | 5 => some true
  | _ => none
theorem cg_ok_0 {P : Program} {w : World} {K : PySem.W.Frag} {mg : Str → Option Value} {fd : Nat → FuncData} (T : Dn P w K mg fd) (c : Nat) (b : Bool) (h : cg_0 c = some b) : PySem.W.exmOne K (.ref ((g0 K).ca c)) (.ref ((g0 K).ca 0)) = some b := by
  unfold cg_0 at h
  split at h
  · injection h with h; subst h; exact T.em1_0
  · injection h with h; subst h; exact T.em2_0
  · injection h with h; subst h; exact T.em3_0
  · injection h with h; subst h; exact T.em4_0
  · injection h with h; subst h; exact T.em5_0
  · cases h
/-! ### is_int -/
abbrev N8 : List Str := ["value"]
abbrev mask_8 : List Bool := [false]
theorem S8 : FnScope N8 ["value"] (defScope (top 8)) := ⟨rfl, rfl, rfl, by decide +kernel, rfl, by decide +kernel, by decide +kernel⟩
theorem bind_8 {K : PySem.W.Frag} {f : Addr} {fd : FuncData} (F : FunD K d8.name d8.qual d8.params d8.body d8.scope (d8.dvs K) (d8.kws K) f fd) : Binds K fd ["value"] [] := FunD.bindsN F fun _ _ _ _ _ _ us hl => match us, hl with | [_], _ => rfl
def m_8 : MS := (mSeq (mRet (mAnd (.e (mOp1 (fun d => (isiD .int d).map .bl) (.v 0))) (mNot (.e (mOp1 (fun d => (isiD .bool d).map .bl) (.v 0))))))
  RS.nx)
def c_8 : List D → RC := callF 1 mask_8 m_8
theorem b_8 {X : Cx} {W : WX} {fd : Nat → FuncData} (C : Cf X W N8 (defScope (top 8)) FR) (R : Room 0 X.A) (T : Dn X.prog X.w X.K X.mg fd) : SSs X (g0 X.K) W (lix 0 mask_8) (defBody (top 8)) m_8 := by
  have h0 : varB N8 (defScope (top 8)) 0 "value" = true := by decide +kernel
  have g_bool : glB (defScope (top 8)) "bool" = true := by decide +kernel
  have g_int : glB (defScope (top 8)) "int" = true := by decide +kernel
  have g_isinstance : glB (defScope (top 8)) "isinstance" = true := by decide +kernel
  unfold m_8
  exact (sss_cons (ss_ret (se_and (SOp.e (se_isi (T := .int) C.toCn fr_isinstance g_isinstance fr_int g_int (SOp.v C.toCn h0) rfl)) (se_and1 (se_not (SOp.e (se_isi (T := .bool) C.toCn fr_isinstance g_isinstance fr_bool g_bool (SOp.v C.toCn h0) rfl))))))
  sss_nil)
theorem ok_8 {P : Program} {w : World} {K : PySem.W.Frag} {mg : Str → Option Value} {base : Heap} {fd : Nat → FuncData} (T : Dn P w K mg fd) : FnOk P w K mg base (L2.CX P w) 1 (He.fAd K d8.at_) (fd 8) ["value"] (Prom ⟨g0 K, K⟩ mask_8 c_8) :=
  fn_okC T.f8 S8 rfl (by decide) T.fr fun X W e1 e2 e3 e4 e5 R C => by
    subst e1 e2 e3 e4 e5
    exact b_8 C R T
/-! ### is_number -/
abbrev N9 : List Str := ["value", "least", "most"]
abbrev mask_9 : List Bool := [false, false, false]
theorem S9 : FnScope N9 ["value", "least", "most"] (defScope (top 9)) := ⟨rfl, rfl, rfl, by decide +kernel, rfl, by decide +kernel, by decide +kernel⟩
theorem bd_9_2 {K : PySem.W.Frag} {f : Addr} {fd : FuncData} (F : FunD K d9.name d9.qual d9.params d9.body d9.scope (d9.dvs K) (d9.kws K) f fd) : ∃ ds, Vals ([.non] : List V) ds ∧ Binds K fd ["value", "least", "most"] ds := FunD.binds1 F 2 1 (fun z => by cases z) rfl fun _ _ _ _ _ _ _ us its h1 h2 => match us, its, h1, h2 with | [_, _], [_, _], _, _ => ⟨_, rfl, rfl⟩
def m_9 : MS := (mSeq (mRet (mAnd (.e (mCall c_8 mask_8 [] [.t (mV 0)])) (mAnd (.e (mOp2 (cmpD fun i j => decide (j ≤ i)) (.v 0) (.v 1))) (mOr (.e (mOp1 (fun d => some (.bl (isN d))) (.v 2))) (mOp2 (cmpD fun i j => decide (i ≤ j)) (.v 0) (.v 2))))))
  RS.nx)
def c_9 : List D → RC := callF 3 mask_9 m_9
theorem b_9 {X : Cx} {W : WX} {fd : Nat → FuncData} (C : Cf X W N9 (defScope (top 9)) FR) (R : Room 1 X.A) (T : Dn X.prog X.w X.K X.mg fd) : SSs X (g0 X.K) W (lix 0 mask_9) (defBody (top 9)) m_9 := by
  have h0 : varB N9 (defScope (top 9)) 0 "value" = true := by decide +kernel
  have h1 : varB N9 (defScope (top 9)) 1 "least" = true := by decide +kernel
  have h2 : varB N9 (defScope (top 9)) 2 "most" = true := by decide +kernel
  have g_is_int : glB (defScope (top 9)) "is_int" = true := by decide +kernel
  unfold m_9
  exact (sss_cons (ss_ret (se_and (SOp.e (se_call (dvs := []) (ds := []) C.tk (ok_8 T) (R.mono (by decide)) (gl_ok C.toCn g_is_int) T.m8 T.f8.kp (bind_8 T.f8) .nil (fun _ _ => .nil) (sa_consT (se_v C.toCn h0) sa_nil rfl) (by decide) rfl rfl)) (se_and (SOp.e (se_ge (SOp.v C.toCn h0) (SOp.v C.toCn h1))) (se_and1 (se_or (SOp.e (se_isN (SOp.v C.toCn h2))) (se_and1 (se_le (SOp.v C.toCn h0) (SOp.v C.toCn h2))))))))
  sss_nil)
theorem ok_9 {P : Program} {w : World} {K : PySem.W.Frag} {mg : Str → Option Value} {base : Heap} {fd : Nat → FuncData} (T : Dn P w K mg fd) : FnOk P w K mg base (L2.CX P w) 2 (He.fAd K d9.at_) (fd 9) ["value", "least", "most"] (Prom ⟨g0 K, K⟩ mask_9 c_9) :=
  fn_okC T.f9 S9 rfl (by decide) T.fr fun X W e1 e2 e3 e4 e5 R C => by
    subst e1 e2 e3 e4 e5
    exact b_9 C R T
/-! ### is_tuple -/
abbrev N10 : List Str := ["value", "many"]
abbrev mask_10 : List Bool := [false, false]
theorem S10 : FnScope N10 ["value", "many"] (defScope (top 10)) := ⟨rfl, rfl, rfl, by decide +kernel, rfl, by decide +kernel, by decide +kernel⟩
theorem bd_10_2 {K : PySem.W.Frag} {f : Addr} {fd : FuncData} (F : FunD K d10.name d10.qual d10.params d10.body d10.scope (d10.dvs K) (d10.kws K) f fd) : ∃ ds, Vals ([] : List V) ds ∧ Binds K fd ["value", "many"] ds := FunD.binds1 F 2 1 (fun z => by cases z) rfl fun _ _ _ _ _ _ _ us its h1 h2 => match us, its, h1, h2 with | [_, _], [_], _, _ => ⟨_, rfl, rfl⟩
def m_10 : MS := (mSeq (mRet (mAnd (.e (mOp1 (fun d => (isiD .tuple d).map .bl) (.v 0))) (mOr (.e (mOp1 (fun d => some (.bl (isN d))) (.v 1))) (mOp2 eqD (.e (mOp1 lenD (.v 0))) (.v 1)))))
  RS.nx)
def c_10 : List D → RC := callF 2 mask_10 m_10
theorem b_10 {X : Cx} {W : WX} {fd : Nat → FuncData} (C : Cf X W N10 (defScope (top 10)) FR) (R : Room 0 X.A) (T : Dn X.prog X.w X.K X.mg fd) : SSs X (g0 X.K) W (lix 0 mask_10) (defBody (top 10)) m_10 := by
  have h0 : varB N10 (defScope (top 10)) 0 "value" = true := by decide +kernel
  have h1 : varB N10 (defScope (top 10)) 1 "many" = true := by decide +kernel
  have g_isinstance : glB (defScope (top 10)) "isinstance" = true := by decide +kernel
  have g_len : glB (defScope (top 10)) "len" = true := by decide +kernel
  have g_tuple : glB (defScope (top 10)) "tuple" = true := by decide +kernel
  unfold m_10
  exact (sss_cons (ss_ret (se_and (SOp.e (se_isi (T := .tuple) C.toCn fr_isinstance g_isinstance fr_tuple g_tuple (SOp.v C.toCn h0) rfl)) (se_and1 (se_or (SOp.e (se_isN (SOp.v C.toCn h1))) (se_and1 (se_eq C.toCn (SOp.e (se_len C.toCn fr_len g_len (SOp.v C.toCn h0) rfl)) (SOp.v C.toCn h1)))))))
  sss_nil)
theorem ok_10 {P : Program} {w : World} {K : PySem.W.Frag} {mg : Str → Option Value} {base : Heap} {fd : Nat → FuncData} (T : Dn P w K mg fd) : FnOk P w K mg base (L2.CX P w) 1 (He.fAd K d10.at_) (fd 10) ["value", "many"] (Prom ⟨g0 K, K⟩ mask_10 c_10) :=
  fn_okC T.f10 S10 rfl (by decide) T.fr fun X W e1 e2 e3 e4 e5 R C => by
    subst e1 e2 e3 e4 e5
    exact b_10 C R T
/-! ### common_part -/
abbrev N12 : List Str := ["one", "two"]
abbrev mask_12 : List Bool := [false, false]
theorem S12 : FnScope N12 ["one", "two"] (defScope (top 12)) := ⟨rfl, rfl, rfl, by decide +kernel, rfl, by decide +kernel, by decide +kernel⟩
theorem bind_12 {K : PySem.W.Frag} {f : Addr} {fd : FuncData} (F : FunD K d12.name d12.qual d12.params d12.body d12.scope (d12.dvs K) (d12.kws K) f fd) : Binds K fd ["one", "two"] [] := FunD.bindsN F fun _ _ _ _ _ _ us hl => match us, hl with | [_, _], _ => rfl
def t_12_1 : ME := (mOp2 (cmpD fun i j => decide (j < i)) (.v 1) (.e (mC (.int 0))))
def s_12_2 : MS := (mSeq (mPar [0, 1] [.t (mV 1), .t (mOp2 modD (.v 0) (.v 1))])
  RS.nx)
def m_12 : MS := (mSeq (mPar [0, 1] [.t (mOp1 absD (.v 0)), .t (mOp1 absD (.v 1))])
  (mSeq (mWhile t_12_1 s_12_2)
  (mSeq (mRet (mMv 0))
  RS.nx)))
def c_12 : List D → RC := callF 2 mask_12 m_12
theorem b_12 {X : Cx} {W : WX} {fd : Nat → FuncData} (C : Cf X W N12 (defScope (top 12)) FR) (R : Room 0 X.A) (T : Dn X.prog X.w X.K X.mg fd) : SSs X (g0 X.K) W (lix 0 mask_12) (defBody (top 12)) m_12 := by
  have h0 : varB N12 (defScope (top 12)) 0 "one" = true := by decide +kernel
  have h1 : varB N12 (defScope (top 12)) 1 "two" = true := by decide +kernel
  have g_abs : glB (defScope (top 12)) "abs" = true := by decide +kernel
  unfold m_12
  exact (sss_cons (ss_parC C (by decide +kernel) (by decide +kernel) (by decide) (sa_consT (se_abs C.toCn fr_abs g_abs (SOp.v C.toCn h0) rfl) (sa_consT (se_abs C.toCn fr_abs g_abs (SOp.v C.toCn h1) rfl) sa_nil rfl) rfl) (by kernel_rfl) (by decide))
  (sss_cons (ss_while C.po (st_gt (SOp.v C.toCn h1) (SOp.e (se_int (g := g0 X.K) (W := W)))) (sss_cons (ss_parC C (by decide +kernel) (by decide +kernel) (by decide) (sa_consT (se_v C.toCn h1) (sa_consT (se_mod (SOp.v C.toCn h0) (SOp.v C.toCn h1)) sa_nil rfl) rfl) (by kernel_rfl) (by decide))
  sss_nil))
  (sss_cons (ss_ret (se_mv C.toCn h0))
  sss_nil)))
theorem ok_12 {P : Program} {w : World} {K : PySem.W.Frag} {mg : Str → Option Value} {base : Heap} {fd : Nat → FuncData} (T : Dn P w K mg fd) : FnOk P w K mg base (L2.CX P w) 1 (He.fAd K d12.at_) (fd 12) ["one", "two"] (Prom ⟨g0 K, K⟩ mask_12 c_12) :=
  fn_okC T.f12 S12 rfl (by decide) T.fr fun X W e1 e2 e3 e4 e5 R C => by
    subst e1 e2 e3 e4 e5
    exact b_12 C R T
/-! ### check_fraction -/
abbrev N13 : List Str := ["value"]
abbrev mask_13 : List Bool := [false]
theorem S13 : FnScope N13 ["value"] (defScope (top 13)) := ⟨rfl, rfl, rfl, by decide +kernel, rfl, by decide +kernel, by decide +kernel⟩
theorem bind_13 {K : PySem.W.Frag} {f : Addr} {fd : FuncData} (F : FunD K d13.name d13.qual d13.params d13.body d13.scope (d13.dvs K) (d13.kws K) f fd) : Binds K fd ["value"] [] := FunD.bindsN F fun _ _ _ _ _ _ us hl => match us, hl with | [_], _ => rfl
def m_13 : MS := (mSeq (mIfS (mTNot (mTru (.e (mCall c_10 mask_10 [] [.t (mV 0), .t (mC (.int 2))])))) (mSeq (mRaise 1 (mOp1 negD (.e (mC (.int 1)))))
  RS.nx) RS.nx)
  (mSeq (mIfS (mTNot (mTru (.e (mCall c_8 mask_8 [] [.t (mOp2 ixD (.v 0) (.e (mC (.int 0))))])))) (mSeq (mRaise 1 (mC (.int 0)))
  RS.nx) RS.nx)
  (mSeq (mIfS (mTNot (mTru (.e (mCall c_9 mask_9 [.non] [.t (mOp2 ixD (.v 0) (.e (mC (.int 1)))), .t (mC (.int 1))])))) (mSeq (mRaise 1 (mC (.int 1)))
  RS.nx) RS.nx)
  (mSeq (mIfS (mOp2 neD (.e (mCall c_12 mask_12 [] [.t (mOp2 ixD (.v 0) (.e (mC (.int 0)))), .t (mOp2 ixD (.v 0) (.e (mC (.int 1))))])) (.e (mC (.int 1)))) (mSeq (mRaise 1 (mC (.int 2)))
  RS.nx) RS.nx)
  (mSeq (mRet (mMv 0))
  RS.nx)))))
def c_13 : List D → RC := callF 1 mask_13 m_13
theorem b_13 {X : Cx} {W : WX} {fd : Nat → FuncData} (C : Cf X W N13 (defScope (top 13)) FR) (R : Room 2 X.A) (T : Dn X.prog X.w X.K X.mg fd) : SSs X (g0 X.K) W (lix 0 mask_13) (defBody (top 13)) m_13 := by
  have h0 : varB N13 (defScope (top 13)) 0 "value" = true := by decide +kernel
  have g_BadFraction : glB (defScope (top 13)) "BadFraction" = true := by decide +kernel
  have g_common_part : glB (defScope (top 13)) "common_part" = true := by decide +kernel
  have g_is_int : glB (defScope (top 13)) "is_int" = true := by decide +kernel
  have g_is_number : glB (defScope (top 13)) "is_number" = true := by decide +kernel
  have g_is_tuple : glB (defScope (top 13)) "is_tuple" = true := by decide +kernel
  unfold m_13
  exact (sss_cons (ss_if (st_not (st_tru (SOp.e (se_callD (dvs := []) C.tk (ok_10 T) (R.mono (by decide)) (gl_ok C.toCn g_is_tuple) T.m10 T.f10.kp (bd_10_2 T.f10) (fun _ _ => .nil) (sa_consT (se_v C.toCn h0) (sa_consT (se_int (g := g0 X.K) (W := W)) sa_nil rfl) rfl) (by decide) rfl rfl)) (fun _ => rfl))) (sss_cons (ss_raise C T.x1 (T.fr _ fr_super) (k := 0) (R.mono (by decide)) g_BadFraction (se_neg (SOp.e (se_int (g := g0 X.K) (W := W)))) (by decide) rfl)
  sss_nil) sss_nil)
  (sss_cons (ss_if (st_not (st_tru (SOp.e (se_call (dvs := []) (ds := []) C.tk (ok_8 T) (R.mono (by decide)) (gl_ok C.toCn g_is_int) T.m8 T.f8.kp (bind_8 T.f8) .nil (fun _ _ => .nil) (sa_consT (se_ix C.toCn (SOp.v C.toCn h0) (SOp.e (se_int (g := g0 X.K) (W := W))) (fun _ _ => rfl)) sa_nil rfl) (by decide) rfl rfl)) (fun _ => rfl))) (sss_cons (ss_raise C T.x1 (T.fr _ fr_super) (k := 0) (R.mono (by decide)) g_BadFraction (se_int (g := g0 X.K) (W := W)) (by decide) rfl)
  sss_nil) sss_nil)
  (sss_cons (ss_if (st_not (st_tru (SOp.e (se_callD (dvs := [.non]) C.tk (ok_9 T) (R.mono (by decide)) (gl_ok C.toCn g_is_number) T.m9 T.f9.kp (bd_9_2 T.f9) (fun _ _ => (ROs.consZ .non .nil)) (sa_consT (se_ix C.toCn (SOp.v C.toCn h0) (SOp.e (se_int (g := g0 X.K) (W := W))) (fun _ _ => rfl)) (sa_consT (se_int (g := g0 X.K) (W := W)) sa_nil rfl) rfl) (by decide) rfl rfl)) (fun _ => rfl))) (sss_cons (ss_raise C T.x1 (T.fr _ fr_super) (k := 0) (R.mono (by decide)) g_BadFraction (se_int (g := g0 X.K) (W := W)) (by decide) rfl)
  sss_nil) sss_nil)
  (sss_cons (ss_if (st_ne C.toCn (SOp.e (se_call (dvs := []) (ds := []) C.tk (ok_12 T) (R.mono (by decide)) (gl_ok C.toCn g_common_part) T.m12 T.f12.kp (bind_12 T.f12) .nil (fun _ _ => .nil) (sa_consT (se_ix C.toCn (SOp.v C.toCn h0) (SOp.e (se_int (g := g0 X.K) (W := W))) (fun _ _ => rfl)) (sa_consT (se_ix C.toCn (SOp.v C.toCn h0) (SOp.e (se_int (g := g0 X.K) (W := W))) (fun _ _ => rfl)) sa_nil rfl) rfl) (by decide) rfl rfl)) (SOp.e (se_int (g := g0 X.K) (W := W)))) (sss_cons (ss_raise C T.x1 (T.fr _ fr_super) (k := 0) (R.mono (by decide)) g_BadFraction (se_int (g := g0 X.K) (W := W)) (by decide) rfl)
  sss_nil) sss_nil)
  (sss_cons (ss_ret (se_mv C.toCn h0))
  sss_nil)))))
theorem ok_13 {P : Program} {w : World} {K : PySem.W.Frag} {mg : Str → Option Value} {base : Heap} {fd : Nat → FuncData} (T : Dn P w K mg fd) : FnOk P w K mg base (L2.CX P w) 3 (He.fAd K d13.at_) (fd 13) ["value"] (Prom ⟨g0 K, K⟩ mask_13 c_13) :=
  fn_okC T.f13 S13 rfl (by decide) T.fr fun X W e1 e2 e3 e4 e5 R C => by
    subst e1 e2 e3 e4 e5
    exact b_13 C R T
/-! ### is_least -/
abbrev N14 : List Str := ["value"]
abbrev mask_14 : List Bool := [false]
theorem S14 : FnScope N14 ["value"] (defScope (top 14)) := ⟨rfl, rfl, rfl, by decide +kernel, rfl, by decide +kernel, by decide +kernel⟩
theorem bind_14 {K : PySem.W.Frag} {f : Addr} {fd : FuncData} (F : FunD K d14.name d14.qual d14.params d14.body d14.scope (d14.dvs K) (d14.kws K) f fd) : Binds K fd ["value"] [] := FunD.bindsN F fun _ _ _ _ _ _ us hl => match us, hl with | [_], _ => rfl
def m_14 : MS := (mSeq (mTryO cg_1 (mSeq (mRet (mOp2 (cmpD fun i j => decide (j ≤ i)) (.e (mOp2 ixD (.e (mCall c_13 mask_13 [] [.t (mV 0)])) (.e (mC (.int 0))))) (.e (mC (.int 0)))))
  RS.nx) (mSeq (mRet (mC (.bl false)))
  RS.nx))
  RS.nx)
def c_14 : List D → RC := callF 1 mask_14 m_14
theorem b_14 {X : Cx} {W : WX} {fd : Nat → FuncData} (C : Cf X W N14 (defScope (top 14)) FR) (R : Room 3 X.A) (T : Dn X.prog X.w X.K X.mg fd) : SSs X (g0 X.K) W (lix 0 mask_14) (defBody (top 14)) m_14 := by
  have h0 : varB N14 (defScope (top 14)) 0 "value" = true := by decide +kernel
  have g_BadFraction : glB (defScope (top 14)) "BadFraction" = true := by decide +kernel
  have g_check_fraction : glB (defScope (top 14)) "check_fraction" = true := by decide +kernel
  unfold m_14
  exact (sss_cons (ss_tryO (cc := 1) (cg := cg_1) C g_BadFraction T.mx1 (by decide) (cg_ok_1 T) (fun pn xe W C => (sss_cons (ss_ret (se_ge (SOp.e (se_ix C.toCn (SOp.e (se_call (dvs := []) (ds := []) C.tk (ok_13 T) (R.mono (by decide)) (gl_ok C.toCn g_check_fraction) T.m13 T.f13.kp (bind_13 T.f13) .nil (fun _ _ => .nil) (sa_consT (se_v C.toCn h0) sa_nil rfl) (by decide) rfl rfl)) (SOp.e (se_int (g := g0 X.K) (W := W))) (fun _ _ => rfl))) (SOp.e (se_int (g := g0 X.K) (W := W)))))
  sss_nil)) (fun a pn => (sss_cons (ss_ret (se_bl (g := g0 X.K) (W := W0)))
  sss_nil)))
  sss_nil)
theorem ok_14 {P : Program} {w : World} {K : PySem.W.Frag} {mg : Str → Option Value} {base : Heap} {fd : Nat → FuncData} (T : Dn P w K mg fd) : FnOk P w K mg base (L2.CX P w) 4 (He.fAd K d14.at_) (fd 14) ["value"] (Prom ⟨g0 K, K⟩ mask_14 c_14) :=
  fn_okC T.f14 S14 rfl (by decide) T.fr fun X W e1 e2 e3 e4 e5 R C => by
    subst e1 e2 e3 e4 e5
    exact b_14 C R T
/-! ### first_marks -/
abbrev N16 : List Str := ["book", "room", "step"]
abbrev mask_16 : List Bool := [false]
theorem S16 : FnScope N16 ["book"] (defScope (top 16)) := ⟨rfl, rfl, rfl, by decide +kernel, rfl, by decide +kernel, by decide +kernel⟩
theorem bind_16 {K : PySem.W.Frag} {f : Addr} {fd : FuncData} (F : FunD K d16.name d16.qual d16.params d16.body d16.scope (d16.dvs K) (d16.kws K) f fd) : Binds K fd ["book"] [] := FunD.bindsN F fun _ _ _ _ _ _ us hl => match us, hl with | [_], _ => rfl
def s_16_1 : MS := (mSeq (mIfS (mTru (.e (mCall c_10 mask_10 [] [.t (mV 2), .t (mC (.int 3))]))) (mSeq (mRet (mOp2 ixD (.v 2) (.e (mC (.int 1)))))
  RS.nx) RS.nx)
  RS.nx)
def s_16_2 : MS := (mSeq (mFor [] (.v 2) (mIt (mIf (mTru (.e (mOp1 (fun d => (isiD .tuple d).map .bl) (.v 1)))) (mV 1) (mTup []))) s_16_1)
  RS.nx)
def m_16 : MS := (mSeq (mFor [] (.v 1) (mIt (mV 0)) s_16_2)
  (mSeq (mRet (mC .non))
  RS.nx))
def c_16 : List D → RC := callF 3 mask_16 m_16
theorem b_16 {X : Cx} {W : WX} {fd : Nat → FuncData} (C : Cf X W N16 (defScope (top 16)) FR) (R : Room 1 X.A) (T : Dn X.prog X.w X.K X.mg fd) : SSs X (g0 X.K) W (lix 0 mask_16) (defBody (top 16)) m_16 := by
  have h0 : varB N16 (defScope (top 16)) 0 "book" = true := by decide +kernel
  have h1 : varB N16 (defScope (top 16)) 1 "room" = true := by decide +kernel
  have h2 : varB N16 (defScope (top 16)) 2 "step" = true := by decide +kernel
  have g_is_tuple : glB (defScope (top 16)) "is_tuple" = true := by decide +kernel
  have g_isinstance : glB (defScope (top 16)) "isinstance" = true := by decide +kernel
  have g_tuple : glB (defScope (top 16)) "tuple" = true := by decide +kernel
  unfold m_16
  exact (sss_cons (ss_for (Ls := []) (t := (.v 1)) C.po C.calm (si_seq (se_v C.toCn h0)) (pg_f C (by decide +kernel)) (gok_v (by decide)) (sss_cons (ss_for (Ls := []) (t := (.v 2)) C.po C.calm (si_seq (se_if (st_tru (SOp.e (se_isi (T := .tuple) C.toCn fr_isinstance g_isinstance fr_tuple g_tuple (SOp.v C.toCn h1) rfl)) (fun _ => rfl)) (se_v C.toCn h1) (se_tup (g := g0 X.K) (W := W) sa_nil))) (pg_f C (by decide +kernel)) (gok_v (by decide)) (sss_cons (ss_if (st_tru (SOp.e (se_callD (dvs := []) C.tk (ok_10 T) (R.mono (by decide)) (gl_ok C.toCn g_is_tuple) T.m10 T.f10.kp (bd_10_2 T.f10) (fun _ _ => .nil) (sa_consT (se_v C.toCn h2) (sa_consT (se_int (g := g0 X.K) (W := W)) sa_nil rfl) rfl) (by decide) rfl rfl)) (fun _ => rfl)) (sss_cons (ss_ret (se_ix C.toCn (SOp.v C.toCn h2) (SOp.e (se_int (g := g0 X.K) (W := W))) (fun _ _ => rfl)))
  sss_nil) sss_nil)
  sss_nil) (fun _ => rfl))
  sss_nil) (fun _ => rfl))
  (sss_cons (ss_ret (se_non (g := g0 X.K) (W := W)))
  sss_nil))
theorem ok_16 {P : Program} {w : World} {K : PySem.W.Frag} {mg : Str → Option Value} {base : Heap} {fd : Nat → FuncData} (T : Dn P w K mg fd) : FnOk P w K mg base (L2.CX P w) 2 (He.fAd K d16.at_) (fd 16) ["book"] (Prom ⟨g0 K, K⟩ mask_16 c_16) :=
  fn_okC T.f16 S16 rfl (by decide) T.fr fun X W e1 e2 e3 e4 e5 R C => by
    subst e1 e2 e3 e4 e5
    exact b_16 C R T
/-! ### marks_many -/
abbrev N17 : List Str := ["marked", "marks"]
abbrev mask_17 : List Bool := [false]
theorem S17 : FnScope N17 ["marked"] (defScope (top 17)) := ⟨rfl, rfl, rfl, by decide +kernel, rfl, by decide +kernel, by decide +kernel⟩
theorem bind_17 {K : PySem.W.Frag} {f : Addr} {fd : FuncData} (F : FunD K d17.name d17.qual d17.params d17.body d17.scope (d17.dvs K) (d17.kws K) f fd) : Binds K fd ["marked"] [] := FunD.bindsN F fun _ _ _ _ _ _ us hl => match us, hl with | [_], _ => rfl
def m_17 : MS := (mSeq (mAsg (.v 1) (mCall c_16 mask_16 [] [.t (mOp2 ixD (.v 0) (.e (mC (.int 2))))]))
  (mSeq (mRet (mIf (mOp1 (fun d => some (.bl (isN d))) (.v 1)) (mC (.int 1)) (mOp1 lenD (.v 1))))
  RS.nx))
def c_17 : List D → RC := callF 2 mask_17 m_17
theorem b_17 {X : Cx} {W : WX} {fd : Nat → FuncData} (C : Cf X W N17 (defScope (top 17)) FR) (R : Room 2 X.A) (T : Dn X.prog X.w X.K X.mg fd) : SSs X (g0 X.K) W (lix 0 mask_17) (defBody (top 17)) m_17 := by
  have h0 : varB N17 (defScope (top 17)) 0 "marked" = true := by decide +kernel
  have h1 : varB N17 (defScope (top 17)) 1 "marks" = true := by decide +kernel
  have g_first_marks : glB (defScope (top 17)) "first_marks" = true := by decide +kernel
  have g_len : glB (defScope (top 17)) "len" = true := by decide +kernel
  unfold m_17
  exact (sss_cons (ss_setC C (by decide +kernel) (se_call (dvs := []) (ds := []) C.tk (ok_16 T) (R.mono (by decide)) (gl_ok C.toCn g_first_marks) T.m16 T.f16.kp (bind_16 T.f16) .nil (fun _ _ => .nil) (sa_consT (se_ix C.toCn (SOp.v C.toCn h0) (SOp.e (se_int (g := g0 X.K) (W := W))) (fun _ _ => rfl)) sa_nil rfl) (by decide) rfl rfl) (by decide) rfl)
  (sss_cons (ss_ret (se_if (st_isN (SOp.v C.toCn h1)) (se_int (g := g0 X.K) (W := W)) (se_len C.toCn fr_len g_len (SOp.v C.toCn h1) rfl)))
  sss_nil))
theorem ok_17 {P : Program} {w : World} {K : PySem.W.Frag} {mg : Str → Option Value} {base : Heap} {fd : Nat → FuncData} (T : Dn P w K mg fd) : FnOk P w K mg base (L2.CX P w) 3 (He.fAd K d17.at_) (fd 17) ["marked"] (Prom ⟨g0 K, K⟩ mask_17 c_17) :=
  fn_okC T.f17 S17 rfl (by decide) T.fr fun X W e1 e2 e3 e4 e5 R C => by
    subst e1 e2 e3 e4 e5
    exact b_17 C R T
/-! ### check_prices -/
abbrev N19 : List Str := ["marked", "value", "many", "place", "one"]
abbrev mask_19 : List Bool := [false, false]
theorem S19 : FnScope N19 ["marked", "value"] (defScope (top 19)) := ⟨rfl, rfl, rfl, by decide +kernel, rfl, by decide +kernel, by decide +kernel⟩
theorem bind_19 {K : PySem.W.Frag} {f : Addr} {fd : FuncData} (F : FunD K d19.name d19.qual d19.params d19.body d19.scope (d19.dvs K) (d19.kws K) f fd) : Binds K fd ["marked", "value"] [] := FunD.bindsN F fun _ _ _ _ _ _ us hl => match us, hl with | [_, _], _ => rfl
theorem kb_19_0 {K : PySem.W.Frag} {f : Addr} {fd : FuncData} (F : FunD K d19.name d19.qual d19.params d19.body d19.scope (d19.dvs K) (d19.kws K) f fd) : KBn K fd ["marked", "value"] 0 ["value", "marked"] (fun us ws => genL .none [] [.a 1, .a 0] (us ++ ws)) (fun vs zs => genL .non [] [.a 1, .a 0] (vs ++ zs)) := kbn0 F fun _ _ _ _ _ _ us ws h1 h2 => match us, ws, h1, h2 with | [], [_, _], _, _ => rfl
def s_19_1 : MS := (mSeq (mIfS (mTAnd (mTNot (mTru (.e (mCall c_14 mask_14 [] [.t (mV 4)])))) (mTOr (mOp1 (fun d => some (.bl (!isN d))) (.v 4)) (mOp2 (cmpD fun i j => decide (i < j)) (.v 3) (.e (mOp2 subD (.v 2) (.e (mC (.int 1)))))))) (mSeq (mRaise 4 (mV 3))
  RS.nx) RS.nx)
  RS.nx)
def m_19 : MS := (mSeq (mAsg (.v 2) (mOp2 addD (.e (mCall c_17 mask_17 [] [.t (mV 0)])) (.e (mC (.int 3)))))
  (mSeq (mIfS (mTNot (mTru (.e (mCall c_10 mask_10 [] [.t (mV 1), .t (mV 2)])))) (mSeq (mRaise 4 (mOp1 negD (.e (mC (.int 1)))))
  RS.nx) RS.nx)
  (mSeq (mFor [] (.t [(.v 3), (.v 4)]) (mEnum (mV 1)) s_19_1)
  (mSeq (mRet (mMv 1))
  RS.nx))))
def c_19 : List D → RC := callF 5 mask_19 m_19
theorem b_19 {X : Cx} {W : WX} {fd : Nat → FuncData} (C : Cf X W N19 (defScope (top 19)) FR) (R : Room 4 X.A) (T : Dn X.prog X.w X.K X.mg fd) : SSs X (g0 X.K) W (lix 0 mask_19) (defBody (top 19)) m_19 := by
  have h0 : varB N19 (defScope (top 19)) 0 "marked" = true := by decide +kernel
  have h1 : varB N19 (defScope (top 19)) 1 "value" = true := by decide +kernel
  have h2 : varB N19 (defScope (top 19)) 2 "many" = true := by decide +kernel
  have h3 : varB N19 (defScope (top 19)) 3 "place" = true := by decide +kernel
  have h4 : varB N19 (defScope (top 19)) 4 "one" = true := by decide +kernel
  have g_BadPrices : glB (defScope (top 19)) "BadPrices" = true := by decide +kernel
  have g_enumerate : glB (defScope (top 19)) "enumerate" = true := by decide +kernel
  have g_is_least : glB (defScope (top 19)) "is_least" = true := by decide +kernel
  have g_is_tuple : glB (defScope (top 19)) "is_tuple" = true := by decide +kernel
  have g_marks_many : glB (defScope (top 19)) "marks_many" = true := by decide +kernel
  unfold m_19
  exact (sss_cons (ss_setC C (by decide +kernel) (se_add (SOp.e (se_call (dvs := []) (ds := []) C.tk (ok_17 T) (R.mono (by decide)) (gl_ok C.toCn g_marks_many) T.m17 T.f17.kp (bind_17 T.f17) .nil (fun _ _ => .nil) (sa_consT (se_v C.toCn h0) sa_nil rfl) (by decide) rfl rfl)) (SOp.e (se_int (g := g0 X.K) (W := W)))) (by decide) rfl)
  (sss_cons (ss_if (st_not (st_tru (SOp.e (se_callD (dvs := []) C.tk (ok_10 T) (R.mono (by decide)) (gl_ok C.toCn g_is_tuple) T.m10 T.f10.kp (bd_10_2 T.f10) (fun _ _ => .nil) (sa_consT (se_v C.toCn h1) (sa_consT (se_v C.toCn h2) sa_nil rfl) rfl) (by decide) rfl rfl)) (fun _ => rfl))) (sss_cons (ss_raise C T.x4 (T.fr _ fr_super) (k := 0) (R.mono (by decide)) g_BadPrices (se_neg (SOp.e (se_int (g := g0 X.K) (W := W)))) (by decide) rfl)
  sss_nil) sss_nil)
  (sss_cons (ss_for (Ls := []) (t := (.t [(.v 3), (.v 4)])) C.po C.calm (si_enum C.toCn fr_enumerate g_enumerate (se_v C.toCn h1) rfl rfl) (pg_tup C.toCn.calm (pgs_cons (pg_f C (by decide +kernel)) (pgs_cons (pg_f C (by decide +kernel)) pgs_nil))) (gok_t rfl rfl (gsok_cons (gok_v (by decide)) (gsok_cons (gok_v (by decide)) gsok_nil))) (sss_cons (ss_if (st_bool (sw_and (st_not (st_tru (SOp.e (se_call (dvs := []) (ds := []) C.tk (ok_14 T) (R.mono (by decide)) (gl_ok C.toCn g_is_least) T.m14 T.f14.kp (bind_14 T.f14) .nil (fun _ _ => .nil) (sa_consT (se_v C.toCn h4) sa_nil rfl) (by decide) rfl rfl)) (fun _ => rfl))) (sw_and1 (st_bool (sw_or (st_notN (SOp.v C.toCn h4)) (sw_or1 (st_lt (SOp.v C.toCn h3) (SOp.e (se_sub (SOp.v C.toCn h2) (SOp.e (se_int (g := g0 X.K) (W := W)))))))))))) (sss_cons (ss_raise C T.x4 (T.fr _ fr_super) (k := 0) (R.mono (by decide)) g_BadPrices (se_v C.toCn h3) (by decide) rfl)
  sss_nil) sss_nil)
  sss_nil) (fun _ => rfl))
  (sss_cons (ss_ret (se_mv C.toCn h1))
  sss_nil))))
theorem ok_19 {P : Program} {w : World} {K : PySem.W.Frag} {mg : Str → Option Value} {base : Heap} {fd : Nat → FuncData} (T : Dn P w K mg fd) : FnOk P w K mg base (L2.CX P w) 5 (He.fAd K d19.at_) (fd 19) ["marked", "value"] (Prom ⟨g0 K, K⟩ mask_19 c_19) :=
  fn_okC T.f19 S19 rfl (by decide) T.fr fun X W e1 e2 e3 e4 e5 R C => by
    subst e1 e2 e3 e4 e5
    exact b_19 C R T
/-! ### _law_box -/
abbrev N21 : List Str := ["script", "k", "cell", "great"]
abbrev mask_21 : List Bool := [false, false]
theorem S21 : FnScope N21 ["script", "k"] (defScope (top 21)) := ⟨rfl, rfl, rfl, by decide +kernel, rfl, by decide +kernel, by decide +kernel⟩
theorem bind_21 {K : PySem.W.Frag} {f : Addr} {fd : FuncData} (F : FunD K d21.name d21.qual d21.params d21.body d21.scope (d21.dvs K) (d21.kws K) f fd) : Binds K fd ["script", "k"] [] := FunD.bindsN F fun _ _ _ _ _ _ us hl => match us, hl with | [_, _], _ => rfl
def m_21 : MS := (mSeq (mAsg (.v 2) (mOp2 addD (.e (mOp2 mulD (.e (mC (.int 20011))) (.v 1))) (.e (mC (.int 7417)))))
  (mSeq (mIfS (mOp2 (cmpD fun i j => decide (i < j)) (.v 1) (.e (mOp1 lenD (.v 0)))) (mSeq (mAsg (.v 2) (mOp1 absD (.e (mOp1 intD (.e (mOp2 ixD (.v 0) (.v 1)))))))
  RS.nx) (mSeq (mIfS (mOp2 (cmpD fun i j => decide (j < i)) (.e (mOp1 lenD (.v 0))) (.e (mC (.int 0)))) (mSeq (mAsg (.v 2) (mOp2 addD (.v 2) (.e (mOp2 mulD (.e (mOp2 modD (.e (mOp1 intD (.e (mOp1 absD (.e (mOp1 intD (.e (mOp2 ixD (.v 0) (.e (mOp2 modD (.e (mOp1 intD (.v 1))) (.e (mOp1 lenD (.v 0))))))))))))) (.e (mC (.int 2147483563))))) (.e (mC (.int 88339)))))))
  RS.nx) RS.nx)
  RS.nx))
  (mSeq (mAsg (.v 3) (mIf (mOp2 (cmpD fun i j => decide (j ≤ i)) (.v 2) (.e (mOp2 powD (.e (mC (.int 10))) (.e (mC (.int 18)))))) (mV 2) (mC (.int 0))))
  (mSeq (mRet (mLst [.t (mV 3), .t (mOp2 addD (.e (mOp2 modD (.e (mOp1 intD (.e (mOp2 addD (.e (mOp2 mulD (.e (mOp2 modD (.e (mOp1 intD (.v 2))) (.e (mC (.int 2147483563))))) (.e (mC (.int 54250003))))) (.e (mOp2 mulD (.e (mC (.int 7417))) (.v 1))))))) (.e (mC (.int 2147483563))))) (.e (mC (.int 1))))]))
  RS.nx))))
def c_21 : List D → RC := callF 4 mask_21 m_21
theorem b_21 {X : Cx} {W : WX} {fd : Nat → FuncData} (C : Cf X W N21 (defScope (top 21)) FR) (R : Room 0 X.A) (T : Dn X.prog X.w X.K X.mg fd) : SSs X (g0 X.K) W (lix 0 mask_21) (defBody (top 21)) m_21 := by
  have h0 : varB N21 (defScope (top 21)) 0 "script" = true := by decide +kernel
  have h1 : varB N21 (defScope (top 21)) 1 "k" = true := by decide +kernel
  have h2 : varB N21 (defScope (top 21)) 2 "cell" = true := by decide +kernel
  have h3 : varB N21 (defScope (top 21)) 3 "great" = true := by decide +kernel
  have g_abs : glB (defScope (top 21)) "abs" = true := by decide +kernel
  have g_int : glB (defScope (top 21)) "int" = true := by decide +kernel
  have g_len : glB (defScope (top 21)) "len" = true := by decide +kernel
  unfold m_21
  exact (sss_cons (ss_setC C (by decide +kernel) (se_add (SOp.e (se_mul (SOp.e (se_int (g := g0 X.K) (W := W))) (SOp.v C.toCn h1))) (SOp.e (se_int (g := g0 X.K) (W := W)))) (by decide) rfl)
  (sss_cons (ss_if (st_lt (SOp.v C.toCn h1) (SOp.e (se_len C.toCn fr_len g_len (SOp.v C.toCn h0) rfl))) (sss_cons (ss_setC C (by decide +kernel) (se_abs C.toCn fr_abs g_abs (SOp.e (se_int1 C.toCn fr_int g_int (SOp.e (se_ix C.toCn (SOp.v C.toCn h0) (SOp.v C.toCn h1) (fun _ _ => rfl))) rfl)) rfl) (by decide) rfl)
  sss_nil) (sss_cons (ss_if (st_gt (SOp.e (se_len C.toCn fr_len g_len (SOp.v C.toCn h0) rfl)) (SOp.e (se_int (g := g0 X.K) (W := W)))) (sss_cons (ss_setC C (by decide +kernel) (se_add (SOp.v C.toCn h2) (SOp.e (se_mul (SOp.e (se_mod (SOp.e (se_int1 C.toCn fr_int g_int (SOp.e (se_abs C.toCn fr_abs g_abs (SOp.e (se_int1 C.toCn fr_int g_int (SOp.e (se_ix C.toCn (SOp.v C.toCn h0) (SOp.e (se_mod (SOp.e (se_int1 C.toCn fr_int g_int (SOp.v C.toCn h1) rfl)) (SOp.e (se_len C.toCn fr_len g_len (SOp.v C.toCn h0) rfl)))) (fun _ _ => rfl))) rfl)) rfl)) rfl)) (SOp.e (se_int (g := g0 X.K) (W := W))))) (SOp.e (se_int (g := g0 X.K) (W := W)))))) (by decide) rfl)
  sss_nil) sss_nil)
  sss_nil))
  (sss_cons (ss_setC C (by decide +kernel) (se_if (st_ge (SOp.v C.toCn h2) (SOp.e (se_pow (SOp.e (se_int (g := g0 X.K) (W := W))) (SOp.e (se_int (g := g0 X.K) (W := W)))))) (se_v C.toCn h2) (se_int (g := g0 X.K) (W := W))) (by decide) rfl)
  (sss_cons (ss_ret (se_lst (g := g0 X.K) (W := W) (sa_consT (se_v C.toCn h3) (sa_consT (se_add (SOp.e (se_mod (SOp.e (se_int1 C.toCn fr_int g_int (SOp.e (se_add (SOp.e (se_mul (SOp.e (se_mod (SOp.e (se_int1 C.toCn fr_int g_int (SOp.v C.toCn h2) rfl)) (SOp.e (se_int (g := g0 X.K) (W := W))))) (SOp.e (se_int (g := g0 X.K) (W := W))))) (SOp.e (se_mul (SOp.e (se_int (g := g0 X.K) (W := W))) (SOp.v C.toCn h1))))) rfl)) (SOp.e (se_int (g := g0 X.K) (W := W))))) (SOp.e (se_int (g := g0 X.K) (W := W)))) sa_nil rfl) rfl)))
  sss_nil))))
theorem ok_21 {P : Program} {w : World} {K : PySem.W.Frag} {mg : Str → Option Value} {base : Heap} {fd : Nat → FuncData} (T : Dn P w K mg fd) : FnOk P w K mg base (L2.CX P w) 1 (He.fAd K d21.at_) (fd 21) ["script", "k"] (Prom ⟨g0 K, K⟩ mask_21 c_21) :=
  fn_okC T.f21 S21 rfl (by decide) T.fr fun X W e1 e2 e3 e4 e5 R C => by
    subst e1 e2 e3 e4 e5
    exact b_21 C R T
/-! ### _law_take -/
abbrev N22 : List Str := ["box", "many", "digit", "raw"]
abbrev mask_22 : List Bool := [true, false]
theorem S22 : FnScope N22 ["box", "many"] (defScope (top 22)) := ⟨rfl, rfl, rfl, by decide +kernel, rfl, by decide +kernel, by decide +kernel⟩
theorem bind_22 {K : PySem.W.Frag} {f : Addr} {fd : FuncData} (F : FunD K d22.name d22.qual d22.params d22.body d22.scope (d22.dvs K) (d22.kws K) f fd) : Binds K fd ["box", "many"] [] := FunD.bindsN F fun _ _ _ _ _ _ us hl => match us, hl with | [_, _], _ => rfl
def m_22 : MS := (mSeq (mIfS (mOp2 (cmpD fun i j => decide (j < i)) (.e (mOp2 ixD (.v 0) (.e (mC (.int 0))))) (.e (mC (.int 0)))) (mSeq (mAsg (.v 2) (mOp2 modD (.e (mOp1 intD (.e (mOp2 ixD (.v 0) (.e (mC (.int 0))))))) (.v 1)))
  (mSeq (mSet 0 (.e (mC (.int 0))) (mOp2 fdivD (.e (mOp2 ixD (.v 0) (.e (mC (.int 0))))) (.v 1)))
  (mSeq (mRet (mMv 2))
  RS.nx))) RS.nx)
  (mSeq (mAsg (.v 3) (mOp2 modD (.e (mOp1 intD (.e (mOp2 addD (.e (mOp2 mulD (.e (mOp2 ixD (.v 0) (.e (mC (.int 1))))) (.e (mC (.int 39373))))) (.e (mC (.int 163))))))) (.e (mC (.int 2147483647)))))
  (mSeq (mSet 0 (.e (mC (.int 1))) (mOp2 addD (.e (mOp2 modD (.e (mOp1 intD (.e (mOp2 addD (.e (mOp2 mulD (.v 3) (.e (mC (.int 40692))))) (.e (mC (.int 67))))))) (.e (mC (.int 2147483563))))) (.e (mC (.int 1)))))
  (mSeq (mRet (mOp2 modD (.e (mOp1 intD (.e (mOp2 fdivD (.e (mOp2 addD (.e (mOp2 mulD (.v 3) (.e (mC (.int 2147483629))))) (.e (mOp2 ixD (.v 0) (.e (mC (.int 1))))))) (.e (mC (.int 8233))))))) (.v 1)))
  RS.nx))))
def c_22 : List D → RC := callF 4 mask_22 m_22
theorem b_22 {X : Cx} {W : WX} {fd : Nat → FuncData} (C : Cf X W N22 (defScope (top 22)) FR) (R : Room 0 X.A) (T : Dn X.prog X.w X.K X.mg fd) : SSs X (g0 X.K) W (lix 0 mask_22) (defBody (top 22)) m_22 := by
  have h0 : varB N22 (defScope (top 22)) 0 "box" = true := by decide +kernel
  have h1 : varB N22 (defScope (top 22)) 1 "many" = true := by decide +kernel
  have h2 : varB N22 (defScope (top 22)) 2 "digit" = true := by decide +kernel
  have h3 : varB N22 (defScope (top 22)) 3 "raw" = true := by decide +kernel
  have g_int : glB (defScope (top 22)) "int" = true := by decide +kernel
  unfold m_22
  exact (sss_cons (ss_if (st_gt (SOp.e (se_ix C.toCn (SOp.v C.toCn h0) (SOp.e (se_int (g := g0 X.K) (W := W))) (fun _ _ => rfl))) (SOp.e (se_int (g := g0 X.K) (W := W)))) (sss_cons (ss_setC C (by decide +kernel) (se_mod (SOp.e (se_int1 C.toCn fr_int g_int (SOp.e (se_ix C.toCn (SOp.v C.toCn h0) (SOp.e (se_int (g := g0 X.K) (W := W))) (fun _ _ => rfl))) rfl)) (SOp.v C.toCn h1)) (by decide) rfl)
  (sss_cons (ss_sub C.toCn h0 (SOp.e (se_int (g := g0 X.K) (W := W))) (se_fdiv (SOp.e (se_ix C.toCn (SOp.v C.toCn h0) (SOp.e (se_int (g := g0 X.K) (W := W))) (fun _ _ => rfl))) (SOp.v C.toCn h1)) rfl rfl rfl (fun _ => rfl))
  (sss_cons (ss_ret (se_mv C.toCn h2))
  sss_nil))) sss_nil)
  (sss_cons (ss_setC C (by decide +kernel) (se_mod (SOp.e (se_int1 C.toCn fr_int g_int (SOp.e (se_add (SOp.e (se_mul (SOp.e (se_ix C.toCn (SOp.v C.toCn h0) (SOp.e (se_int (g := g0 X.K) (W := W))) (fun _ _ => rfl))) (SOp.e (se_int (g := g0 X.K) (W := W))))) (SOp.e (se_int (g := g0 X.K) (W := W))))) rfl)) (SOp.e (se_int (g := g0 X.K) (W := W)))) (by decide) rfl)
  (sss_cons (ss_sub C.toCn h0 (SOp.e (se_int (g := g0 X.K) (W := W))) (se_add (SOp.e (se_mod (SOp.e (se_int1 C.toCn fr_int g_int (SOp.e (se_add (SOp.e (se_mul (SOp.v C.toCn h3) (SOp.e (se_int (g := g0 X.K) (W := W))))) (SOp.e (se_int (g := g0 X.K) (W := W))))) rfl)) (SOp.e (se_int (g := g0 X.K) (W := W))))) (SOp.e (se_int (g := g0 X.K) (W := W)))) rfl rfl rfl (fun _ => rfl))
  (sss_cons (ss_ret (se_mod (SOp.e (se_int1 C.toCn fr_int g_int (SOp.e (se_fdiv (SOp.e (se_add (SOp.e (se_mul (SOp.v C.toCn h3) (SOp.e (se_int (g := g0 X.K) (W := W))))) (SOp.e (se_ix C.toCn (SOp.v C.toCn h0) (SOp.e (se_int (g := g0 X.K) (W := W))) (fun _ _ => rfl))))) (SOp.e (se_int (g := g0 X.K) (W := W))))) rfl)) (SOp.v C.toCn h1)))
  sss_nil))))
theorem ok_22 {P : Program} {w : World} {K : PySem.W.Frag} {mg : Str → Option Value} {base : Heap} {fd : Nat → FuncData} (T : Dn P w K mg fd) : FnOk P w K mg base (L2.CX P w) 1 (He.fAd K d22.at_) (fd 22) ["box", "many"] (Prom ⟨g0 K, K⟩ mask_22 c_22) :=
  fn_okC T.f22 S22 rfl (by decide) T.fr fun X W e1 e2 e3 e4 e5 R C => by
    subst e1 e2 e3 e4 e5
    exact b_22 C R T
/-! ### _law_pick -/
abbrev N23 : List Str := ["box", "some"]
abbrev mask_23 : List Bool := [true, false]
theorem S23 : FnScope N23 ["box", "some"] (defScope (top 23)) := ⟨rfl, rfl, rfl, by decide +kernel, rfl, by decide +kernel, by decide +kernel⟩
theorem bind_23 {K : PySem.W.Frag} {f : Addr} {fd : FuncData} (F : FunD K d23.name d23.qual d23.params d23.body d23.scope (d23.dvs K) (d23.kws K) f fd) : Binds K fd ["box", "some"] [] := FunD.bindsN F fun _ _ _ _ _ _ us hl => match us, hl with | [_, _], _ => rfl
def m_23 : MS := (mSeq (mRet (mOp2 ixD (.v 1) (.e (mCall c_22 mask_22 [] [.l 0, .t (mOp1 lenD (.v 1))]))))
  RS.nx)
def c_23 : List D → RC := callF 2 mask_23 m_23
theorem b_23 {X : Cx} {W : WX} {fd : Nat → FuncData} (C : Cf X W N23 (defScope (top 23)) FR) (R : Room 1 X.A) (T : Dn X.prog X.w X.K X.mg fd) : SSs X (g0 X.K) W (lix 0 mask_23) (defBody (top 23)) m_23 := by
  have h0 : varB N23 (defScope (top 23)) 0 "box" = true := by decide +kernel
  have h1 : varB N23 (defScope (top 23)) 1 "some" = true := by decide +kernel
  have g__law_take : glB (defScope (top 23)) "_law_take" = true := by decide +kernel
  have g_len : glB (defScope (top 23)) "len" = true := by decide +kernel
  unfold m_23
  exact (sss_cons (ss_ret (se_ix C.toCn (SOp.v C.toCn h1) (SOp.e (se_call (dvs := []) (ds := []) C.tk (ok_22 T) (R.mono (by decide)) (gl_ok C.toCn g__law_take) T.m22 T.f22.kp (bind_22 T.f22) .nil (fun _ _ => .nil) (sa_consL (pv_ok C.toCn h0) (sa_consT (se_len C.toCn fr_len g_len (SOp.v C.toCn h1) rfl) sa_nil rfl) rfl) (by decide) rfl rfl)) (fun _ _ => rfl)))
  sss_nil)
theorem ok_23 {P : Program} {w : World} {K : PySem.W.Frag} {mg : Str → Option Value} {base : Heap} {fd : Nat → FuncData} (T : Dn P w K mg fd) : FnOk P w K mg base (L2.CX P w) 2 (He.fAd K d23.at_) (fd 23) ["box", "some"] (Prom ⟨g0 K, K⟩ mask_23 c_23) :=
  fn_okC T.f23 S23 rfl (by decide) T.fr fun X W e1 e2 e3 e4 e5 R C => by
    subst e1 e2 e3 e4 e5
    exact b_23 C R T
/-! ### _law_same -/
abbrev N24 : List Str := ["told", "due", "one", "other"]
abbrev mask_24 : List Bool := [false, false]
theorem S24 : FnScope N24 ["told", "due"] (defScope (top 24)) := ⟨rfl, rfl, rfl, by decide +kernel, rfl, by decide +kernel, by decide +kernel⟩
theorem bind_24 {K : PySem.W.Frag} {f : Addr} {fd : FuncData} (F : FunD K d24.name d24.qual d24.params d24.body d24.scope (d24.dvs K) (d24.kws K) f fd) : Binds K fd ["told", "due"] [] := FunD.bindsN F fun _ _ _ _ _ _ us hl => match us, hl with | [_, _], _ => rfl
def s_24_1 (self : List D → RC) : MS := (mSeq (mIfS (mTNot (mTru (.e (mCall self mask_24 [] [.t (mV 2), .t (mV 3)])))) (mSeq (mRet (mC (.bl false)))
  RS.nx) RS.nx)
  RS.nx)
def m_24 (self : List D → RC) : MS := (mSeq (mIfS (mTru (.e (mOp1 (fun d => (isiD .tuple d).map .bl) (.v 1)))) (mSeq (mIfS (mTOr (mTNot (mTru (.e (mOp1 (fun d => (isiD .tuple d).map .bl) (.v 0))))) (mOp2 neD (.e (mOp1 lenD (.v 0))) (.e (mOp1 lenD (.v 1))))) (mSeq (mRet (mC (.bl false)))
  RS.nx) RS.nx)
  (mSeq (mFor [] (.t [(.v 2), (.v 3)]) (mZip2 (mV 0) (mV 1)) (s_24_1 self))
  (mSeq (mRet (mC (.bl true)))
  RS.nx))) RS.nx)
  (mSeq (mIfS (mOp1 (fun d => some (.bl (isN d))) (.v 1)) (mSeq (mRet (mOp1 (fun d => some (.bl (isN d))) (.v 0)))
  RS.nx) RS.nx)
  (mSeq (mIfS (mTOr (mOp1 (fun d => some (.bl (isB true d))) (.v 1)) (mOp1 (fun d => some (.bl (isB false d))) (.v 1))) (mSeq (mRet (mAnd (.e (mOp1 (fun d => (isiD .bool d).map .bl) (.v 0))) (mOp2 eqD (.v 0) (.v 1))))
  RS.nx) RS.nx)
  (mSeq (mIfS (mTru (.e (mOp1 (fun d => (isiD .int d).map .bl) (.v 1)))) (mSeq (mRet (mAnd (.e (mOp1 (fun d => (isiD .int d).map .bl) (.v 0))) (mAnd (.e (mNot (.e (mOp1 (fun d => (isiD .bool d).map .bl) (.v 0))))) (mOp2 eqD (.v 0) (.v 1)))))
  RS.nx) RS.nx)
  (mSeq (mRet (mAnd (.e (mOp1 (fun d => (isiD .str d).map .bl) (.v 0))) (mAnd (.e (mOp1 (fun d => (isiD .str d).map .bl) (.v 1))) (mOp2 eqD (.v 0) (.v 1)))))
  RS.nx)))))
def c_24 : Nat → List D → RC
  | 0 => fun _ => .no
  | n + 1 => callF 4 mask_24 (m_24 (c_24 n))
theorem b_24 {X : Cx} {W : WX} {fd : Nat → FuncData} {n : Nat} {self : List D → RC} (C : Cf X W N24 (defScope (top 24)) FR) (R : Room (0 + n) X.A) (T : Dn X.prog X.w X.K X.mg fd) (S : FnOk X.prog X.w X.K X.mg X.base (L2.CX X.prog X.w) (0 + n) (He.fAd X.K d24.at_) (fd 24) ["told", "due"] (Prom (gOf X (g0 X.K)) mask_24 self)) : SSs X (g0 X.K) W (lix 0 mask_24) (defBody (top 24)) (m_24 self) := by
  have h0 : varB N24 (defScope (top 24)) 0 "told" = true := by decide +kernel
  have h1 : varB N24 (defScope (top 24)) 1 "due" = true := by decide +kernel
  have h2 : varB N24 (defScope (top 24)) 2 "one" = true := by decide +kernel
  have h3 : varB N24 (defScope (top 24)) 3 "other" = true := by decide +kernel
  have g__law_same : glB (defScope (top 24)) "_law_same" = true := by decide +kernel
  have g_bool : glB (defScope (top 24)) "bool" = true := by decide +kernel
  have g_int : glB (defScope (top 24)) "int" = true := by decide +kernel
  have g_isinstance : glB (defScope (top 24)) "isinstance" = true := by decide +kernel
  have g_len : glB (defScope (top 24)) "len" = true := by decide +kernel
  have g_str : glB (defScope (top 24)) "str" = true := by decide +kernel
  have g_tuple : glB (defScope (top 24)) "tuple" = true := by decide +kernel
  have g_zip : glB (defScope (top 24)) "zip" = true := by decide +kernel
  unfold m_24
  exact (sss_cons (ss_if (st_tru (SOp.e (se_isi (T := .tuple) C.toCn fr_isinstance g_isinstance fr_tuple g_tuple (SOp.v C.toCn h1) rfl)) (fun _ => rfl)) (sss_cons (ss_if (st_bool (sw_or (st_not (st_tru (SOp.e (se_isi (T := .tuple) C.toCn fr_isinstance g_isinstance fr_tuple g_tuple (SOp.v C.toCn h0) rfl)) (fun _ => rfl))) (sw_or1 (st_ne C.toCn (SOp.e (se_len C.toCn fr_len g_len (SOp.v C.toCn h0) rfl)) (SOp.e (se_len C.toCn fr_len g_len (SOp.v C.toCn h1) rfl)))))) (sss_cons (ss_ret (se_bl (g := g0 X.K) (W := W)))
  sss_nil) sss_nil)
  (sss_cons (ss_for (Ls := []) (t := (.t [(.v 2), (.v 3)])) C.po C.calm (si_zip2 C.toCn fr_zip g_zip (se_v C.toCn h0) (se_v C.toCn h1) rfl rfl rfl) (pg_tup C.toCn.calm (pgs_cons (pg_f C (by decide +kernel)) (pgs_cons (pg_f C (by decide +kernel)) pgs_nil))) (gok_t rfl rfl (gsok_cons (gok_v (by decide)) (gsok_cons (gok_v (by decide)) gsok_nil))) (sss_cons (ss_if (st_not (st_tru (SOp.e (se_call (dvs := []) (ds := []) C.tk S R (gl_ok C.toCn g__law_same) T.m24 T.f24.kp (bind_24 T.f24) .nil (fun _ _ => .nil) (sa_consT (se_v C.toCn h2) (sa_consT (se_v C.toCn h3) sa_nil rfl) rfl) (by decide) rfl rfl)) (fun _ => rfl))) (sss_cons (ss_ret (se_bl (g := g0 X.K) (W := W)))
  sss_nil) sss_nil)
  sss_nil) (fun _ => rfl))
  (sss_cons (ss_ret (se_bl (g := g0 X.K) (W := W)))
  sss_nil))) sss_nil)
  (sss_cons (ss_if (st_isN (SOp.v C.toCn h1)) (sss_cons (ss_ret (se_isN (SOp.v C.toCn h0)))
  sss_nil) sss_nil)
  (sss_cons (ss_if (st_bool (sw_or (st_isB (SOp.v C.toCn h1)) (sw_or1 (st_isB (SOp.v C.toCn h1))))) (sss_cons (ss_ret (se_and (SOp.e (se_isi (T := .bool) C.toCn fr_isinstance g_isinstance fr_bool g_bool (SOp.v C.toCn h0) rfl)) (se_and1 (se_eq C.toCn (SOp.v C.toCn h0) (SOp.v C.toCn h1)))))
  sss_nil) sss_nil)
  (sss_cons (ss_if (st_tru (SOp.e (se_isi (T := .int) C.toCn fr_isinstance g_isinstance fr_int g_int (SOp.v C.toCn h1) rfl)) (fun _ => rfl)) (sss_cons (ss_ret (se_and (SOp.e (se_isi (T := .int) C.toCn fr_isinstance g_isinstance fr_int g_int (SOp.v C.toCn h0) rfl)) (se_and (SOp.e (se_not (SOp.e (se_isi (T := .bool) C.toCn fr_isinstance g_isinstance fr_bool g_bool (SOp.v C.toCn h0) rfl)))) (se_and1 (se_eq C.toCn (SOp.v C.toCn h0) (SOp.v C.toCn h1))))))
  sss_nil) sss_nil)
  (sss_cons (ss_ret (se_and (SOp.e (se_isi (T := .str) C.toCn fr_isinstance g_isinstance fr_str g_str (SOp.v C.toCn h0) rfl)) (se_and (SOp.e (se_isi (T := .str) C.toCn fr_isinstance g_isinstance fr_str g_str (SOp.v C.toCn h1) rfl)) (se_and1 (se_eq C.toCn (SOp.v C.toCn h0) (SOp.v C.toCn h1))))))
  sss_nil)))))
theorem ok_24 {P : Program} {w : World} {K : PySem.W.Frag} {mg : Str → Option Value} {base : Heap} {fd : Nat → FuncData} (T : Dn P w K mg fd) : ∀ n, FnOk P w K mg base (L2.CX P w) (0 + n) (He.fAd K d24.at_) (fd 24) ["told", "due"] (Prom ⟨g0 K, K⟩ mask_24 (c_24 n))
  | 0 => fn_no rfl
  | n + 1 => fn_okC T.f24 S24 rfl (by decide) T.fr fun X W e1 e2 e3 e4 e5 R C => by
    subst e1 e2 e3 e4 e5
    exact b_24 C R T (ok_24 T n)
/-! ### _law_gcd -/
abbrev N25 : List Str := ["one", "two"]
abbrev mask_25 : List Bool := [false, false]
theorem S25 : FnScope N25 ["one", "two"] (defScope (top 25)) := ⟨rfl, rfl, rfl, by decide +kernel, rfl, by decide +kernel, by decide +kernel⟩
theorem bind_25 {K : PySem.W.Frag} {f : Addr} {fd : FuncData} (F : FunD K d25.name d25.qual d25.params d25.body d25.scope (d25.dvs K) (d25.kws K) f fd) : Binds K fd ["one", "two"] [] := FunD.bindsN F fun _ _ _ _ _ _ us hl => match us, hl with | [_, _], _ => rfl
def t_25_1 : ME := (mOp2 neD (.v 1) (.e (mC (.int 0))))
def s_25_2 : MS := (mSeq (mPar [0, 1] [.t (mV 1), .t (mOp2 modD (.e (mOp1 intD (.v 0))) (.v 1))])
  RS.nx)
def m_25 : MS := (mSeq (mPar [0, 1] [.t (mOp1 absD (.e (mOp1 intD (.v 0)))), .t (mOp1 absD (.e (mOp1 intD (.v 1))))])
  (mSeq (mWhile t_25_1 s_25_2)
  (mSeq (mRet (mMv 0))
  RS.nx)))
def c_25 : List D → RC := callF 2 mask_25 m_25
theorem b_25 {X : Cx} {W : WX} {fd : Nat → FuncData} (C : Cf X W N25 (defScope (top 25)) FR) (R : Room 0 X.A) (T : Dn X.prog X.w X.K X.mg fd) : SSs X (g0 X.K) W (lix 0 mask_25) (defBody (top 25)) m_25 := by
  have h0 : varB N25 (defScope (top 25)) 0 "one" = true := by decide +kernel
  have h1 : varB N25 (defScope (top 25)) 1 "two" = true := by decide +kernel
  have g_abs : glB (defScope (top 25)) "abs" = true := by decide +kernel
  have g_int : glB (defScope (top 25)) "int" = true := by decide +kernel
  unfold m_25
  exact (sss_cons (ss_parC C (by decide +kernel) (by decide +kernel) (by decide) (sa_consT (se_abs C.toCn fr_abs g_abs (SOp.e (se_int1 C.toCn fr_int g_int (SOp.v C.toCn h0) rfl)) rfl) (sa_consT (se_abs C.toCn fr_abs g_abs (SOp.e (se_int1 C.toCn fr_int g_int (SOp.v C.toCn h1) rfl)) rfl) sa_nil rfl) rfl) (by kernel_rfl) (by decide))
  (sss_cons (ss_while C.po (st_ne C.toCn (SOp.v C.toCn h1) (SOp.e (se_int (g := g0 X.K) (W := W)))) (sss_cons (ss_parC C (by decide +kernel) (by decide +kernel) (by decide) (sa_consT (se_v C.toCn h1) (sa_consT (se_mod (SOp.e (se_int1 C.toCn fr_int g_int (SOp.v C.toCn h0) rfl)) (SOp.v C.toCn h1)) sa_nil rfl) rfl) (by kernel_rfl) (by decide))
  sss_nil))
  (sss_cons (ss_ret (se_mv C.toCn h0))
  sss_nil)))
theorem ok_25 {P : Program} {w : World} {K : PySem.W.Frag} {mg : Str → Option Value} {base : Heap} {fd : Nat → FuncData} (T : Dn P w K mg fd) : FnOk P w K mg base (L2.CX P w) 1 (He.fAd K d25.at_) (fd 25) ["one", "two"] (Prom ⟨g0 K, K⟩ mask_25 c_25) :=
  fn_okC T.f25 S25 rfl (by decide) T.fr fun X W e1 e2 e3 e4 e5 R C => by
    subst e1 e2 e3 e4 e5
    exact b_25 C R T
/-! ### _law_lowest -/
abbrev N26 : List Str := ["n", "d", "part"]
abbrev mask_26 : List Bool := [false, false]
theorem S26 : FnScope N26 ["n", "d"] (defScope (top 26)) := ⟨rfl, rfl, rfl, by decide +kernel, rfl, by decide +kernel, by decide +kernel⟩
theorem bind_26 {K : PySem.W.Frag} {f : Addr} {fd : FuncData} (F : FunD K d26.name d26.qual d26.params d26.body d26.scope (d26.dvs K) (d26.kws K) f fd) : Binds K fd ["n", "d"] [] := FunD.bindsN F fun _ _ _ _ _ _ us hl => match us, hl with | [_, _], _ => rfl
def m_26 : MS := (mSeq (mAsg (.v 2) (mCall c_25 mask_25 [] [.t (mV 0), .t (mV 1)]))
  (mSeq (mRet (mTup [.t (mOp2 fdivD (.v 0) (.v 2)), .t (mOp2 fdivD (.v 1) (.v 2))]))
  RS.nx))
def c_26 : List D → RC := callF 3 mask_26 m_26
theorem b_26 {X : Cx} {W : WX} {fd : Nat → FuncData} (C : Cf X W N26 (defScope (top 26)) FR) (R : Room 1 X.A) (T : Dn X.prog X.w X.K X.mg fd) : SSs X (g0 X.K) W (lix 0 mask_26) (defBody (top 26)) m_26 := by
  have h0 : varB N26 (defScope (top 26)) 0 "n" = true := by decide +kernel
  have h1 : varB N26 (defScope (top 26)) 1 "d" = true := by decide +kernel
  have h2 : varB N26 (defScope (top 26)) 2 "part" = true := by decide +kernel
  have g__law_gcd : glB (defScope (top 26)) "_law_gcd" = true := by decide +kernel
  unfold m_26
  exact (sss_cons (ss_setC C (by decide +kernel) (se_call (dvs := []) (ds := []) C.tk (ok_25 T) (R.mono (by decide)) (gl_ok C.toCn g__law_gcd) T.m25 T.f25.kp (bind_25 T.f25) .nil (fun _ _ => .nil) (sa_consT (se_v C.toCn h0) (sa_consT (se_v C.toCn h1) sa_nil rfl) rfl) (by decide) rfl rfl) (by decide) rfl)
  (sss_cons (ss_ret (se_tup (g := g0 X.K) (W := W) (sa_consT (se_fdiv (SOp.v C.toCn h0) (SOp.v C.toCn h2)) (sa_consT (se_fdiv (SOp.v C.toCn h1) (SOp.v C.toCn h2)) sa_nil rfl) rfl)))
  sss_nil))
theorem ok_26 {P : Program} {w : World} {K : PySem.W.Frag} {mg : Str → Option Value} {base : Heap} {fd : Nat → FuncData} (T : Dn P w K mg fd) : FnOk P w K mg base (L2.CX P w) 2 (He.fAd K d26.at_) (fd 26) ["n", "d"] (Prom ⟨g0 K, K⟩ mask_26 c_26) :=
  fn_okC T.f26 S26 rfl (by decide) T.fr fun X W e1 e2 e3 e4 e5 R C => by
    subst e1 e2 e3 e4 e5
    exact b_26 C R T
/-! ### _law_marks -/
abbrev N27 : List Str := ["box", "many", "one"]
abbrev mask_27 : List Bool := [true, false]
theorem S27 : FnScope N27 ["box", "many"] (defScope (top 27)) := ⟨rfl, rfl, rfl, by decide +kernel, rfl, by decide +kernel, by decide +kernel⟩
theorem bind_27 {K : PySem.W.Frag} {f : Addr} {fd : FuncData} (F : FunD K d27.name d27.qual d27.params d27.body d27.scope (d27.dvs K) (d27.kws K) f fd) : Binds K fd ["box", "many"] [] := FunD.bindsN F fun _ _ _ _ _ _ us hl => match us, hl with | [_, _], _ => rfl
def q_27_1 : ME := (mFz (mCall c_23 mask_23 [] [.l 0, .t (mLst [.t (mC (.int 0)), .t (mC (.int 0)), .t (mC (.int 0)), .t (mC (.int 1)), .t (mC (.int 1)), .t (mC (.int 2))])]))
def m_27 : MS := (mSeq (mRet (mOp1 tupleD (.e (mLc [2] (.v 2) (mRg1 (mV 1)) mTrue q_27_1))))
  RS.nx)
def c_27 : List D → RC := callF 3 mask_27 m_27
theorem b_27 {X : Cx} {W : WX} {fd : Nat → FuncData} (C : Cf X W N27 (defScope (top 27)) FR) (R : Room 2 X.A) (T : Dn X.prog X.w X.K X.mg fd) : SSs X (g0 X.K) W (lix 0 mask_27) (defBody (top 27)) m_27 := by
  have h1 : varB N27 (defScope (top 27)) 1 "many" = true := by decide +kernel
  have g_range : glB (defScope (top 27)) "range" = true := by decide +kernel
  have g_tuple : glB (defScope (top 27)) "tuple" = true := by decide +kernel
  unfold m_27
  exact (sss_cons (ss_ret (se_tuple C.toCn fr_tuple g_tuple (SOp.e (se_lcC (own' := [("one", 2)]) (t := (.v 2)) C.toCn (si_rg1 C.toCn fr_range g_range (se_v C.toCn h1) rfl) (by decide +kernel) (fun _ _ _ _ _ C1 => (pg_b C1 (by decide +kernel))) (fun L hL => (gok_vb (by decide) L hL)) (fun _ _ _ _ _ C1 => (pts_true pts_nil)) (fun _ _ _ _ _ C1 => (se_fz (se_call (dvs := []) (ds := []) EV.takes0 (ok_23 T) (R.mono (by decide)) (gl_ok C1 (by decide +kernel)) T.m23 T.f23.kp (bind_23 T.f23) .nil (fun _ _ => .nil) (sa_consL (pv_ok C1 (by decide +kernel)) (sa_consT (se_lst (g := g0 X.K) (W := W0) (sa_consT (se_int (g := g0 X.K) (W := W0)) (sa_consT (se_int (g := g0 X.K) (W := W0)) (sa_consT (se_int (g := g0 X.K) (W := W0)) (sa_consT (se_int (g := g0 X.K) (W := W0)) (sa_consT (se_int (g := g0 X.K) (W := W0)) (sa_consT (se_int (g := g0 X.K) (W := W0)) sa_nil rfl) rfl) rfl) rfl) rfl) rfl)) sa_nil rfl) rfl) (by decide) rfl rfl))) (fun _ => rfl))) rfl))
  sss_nil)
theorem ok_27 {P : Program} {w : World} {K : PySem.W.Frag} {mg : Str → Option Value} {base : Heap} {fd : Nat → FuncData} (T : Dn P w K mg fd) : FnOk P w K mg base (L2.CX P w) 3 (He.fAd K d27.at_) (fd 27) ["box", "many"] (Prom ⟨g0 K, K⟩ mask_27 c_27) :=
  fn_okC T.f27 S27 rfl (by decide) T.fr fun X W e1 e2 e3 e4 e5 R C => by
    subst e1 e2 e3 e4 e5
    exact b_27 C R T
/-! ### _law_ring -/
abbrev N28 : List Str := ["signs", "mine", "theirs", "one", "task"]
abbrev mask_28 : List Bool := [false]
theorem S28 : FnScope N28 ["signs"] (defScope (top 28)) := ⟨rfl, rfl, rfl, by decide +kernel, rfl, by decide +kernel, by decide +kernel⟩
theorem bind_28 {K : PySem.W.Frag} {f : Addr} {fd : FuncData} (F : FunD K d28.name d28.qual d28.params d28.body d28.scope (d28.dvs K) (d28.kws K) f fd) : Binds K fd ["signs"] [] := FunD.bindsN F fun _ _ _ _ _ _ us hl => match us, hl with | [_], _ => rfl
def q_28_1 : ME := (mTup [.t (mV 4), .t (mOp2 ixD (.v 3) (.e (mC (.int 2)))), .t (mC (.int 0))])
def q_28_2 : ME := (mTup [.t (mOp2 ixD (.v 3) (.e (mC (.int 0))))])
def q_28_3 : ME := (mTup [.t (mOp2 ixD (.v 3) (.e (mC (.int 1))))])
def m_28 : MS := (mSeq (mPar [1, 2] [.t (mTup [.t (mTup [.t (mTup [.t (mC (.int 0))])]), .t (mOp1 tupleD (.e (mLc [3] (.v 3) (mIt (mV 0)) mTrue q_28_2)))]), .t (mTup [.t (mTup [.t (mTup [.t (mC (.int 0))])]), .t (mOp1 tupleD (.e (mLc [3] (.v 3) (mIt (mV 0)) mTrue q_28_3)))])])
  (mSeq (mRet (mTup [.t (mV 1), .t (mV 2), .t (mTup [.t (mOp1 tupleD (.e (mLc [4, 3] (.t [(.v 4), (.v 3)]) (mEnum (mV 0)) mTrue q_28_1)))])]))
  RS.nx))
def c_28 : List D → RC := callF 5 mask_28 m_28
theorem b_28 {X : Cx} {W : WX} {fd : Nat → FuncData} (C : Cf X W N28 (defScope (top 28)) FR) (R : Room 0 X.A) (T : Dn X.prog X.w X.K X.mg fd) : SSs X (g0 X.K) W (lix 0 mask_28) (defBody (top 28)) m_28 := by
  have h0 : varB N28 (defScope (top 28)) 0 "signs" = true := by decide +kernel
  have h1 : varB N28 (defScope (top 28)) 1 "mine" = true := by decide +kernel
  have h2 : varB N28 (defScope (top 28)) 2 "theirs" = true := by decide +kernel
  have g_enumerate : glB (defScope (top 28)) "enumerate" = true := by decide +kernel
  have g_tuple : glB (defScope (top 28)) "tuple" = true := by decide +kernel
  unfold m_28
  exact (sss_cons (ss_parC C (by decide +kernel) (by decide +kernel) (by decide) (sa_consT (se_tup (g := g0 X.K) (W := W) (sa_consT (se_tup (g := g0 X.K) (W := W) (sa_consT (se_tup (g := g0 X.K) (W := W) (sa_consT (se_int (g := g0 X.K) (W := W)) sa_nil rfl)) sa_nil rfl)) (sa_consT (se_tuple C.toCn fr_tuple g_tuple (SOp.e (se_lcC (own' := [("one", 3)]) (t := (.v 3)) C.toCn (si_seq (se_v C.toCn h0)) (by decide +kernel) (fun _ _ _ _ _ C1 => (pg_b C1 (by decide +kernel))) (fun L hL => (gok_vb (by decide) L hL)) (fun _ _ _ _ _ C1 => (pts_true pts_nil)) (fun _ _ _ _ _ C1 => (se_tup (g := g0 X.K) (W := W0) (sa_consT (se_ix C1 (SOp.v C1 (by decide +kernel)) (SOp.e (se_int (g := g0 X.K) (W := W0))) (fun _ _ => rfl)) sa_nil rfl))) (fun _ => rfl))) rfl) sa_nil rfl) rfl)) (sa_consT (se_tup (g := g0 X.K) (W := W) (sa_consT (se_tup (g := g0 X.K) (W := W) (sa_consT (se_tup (g := g0 X.K) (W := W) (sa_consT (se_int (g := g0 X.K) (W := W)) sa_nil rfl)) sa_nil rfl)) (sa_consT (se_tuple C.toCn fr_tuple g_tuple (SOp.e (se_lcC (own' := [("one", 3)]) (t := (.v 3)) C.toCn (si_seq (se_v C.toCn h0)) (by decide +kernel) (fun _ _ _ _ _ C1 => (pg_b C1 (by decide +kernel))) (fun L hL => (gok_vb (by decide) L hL)) (fun _ _ _ _ _ C1 => (pts_true pts_nil)) (fun _ _ _ _ _ C1 => (se_tup (g := g0 X.K) (W := W0) (sa_consT (se_ix C1 (SOp.v C1 (by decide +kernel)) (SOp.e (se_int (g := g0 X.K) (W := W0))) (fun _ _ => rfl)) sa_nil rfl))) (fun _ => rfl))) rfl) sa_nil rfl) rfl)) sa_nil rfl) rfl) (by kernel_rfl) (by decide))
  (sss_cons (ss_ret (se_tup (g := g0 X.K) (W := W) (sa_consT (se_v C.toCn h1) (sa_consT (se_v C.toCn h2) (sa_consT (se_tup (g := g0 X.K) (W := W) (sa_consT (se_tuple C.toCn fr_tuple g_tuple (SOp.e (se_lcC (own' := [("task", 4), ("one", 3)]) (t := (.t [(.v 4), (.v 3)])) C.toCn (si_enum C.toCn fr_enumerate g_enumerate (se_v C.toCn h0) rfl rfl) (by decide +kernel) (fun _ _ _ _ _ C1 => (pg_tup C1.calm (pgs_cons (pg_b C1 (by decide +kernel)) (pgs_cons (pg_b C1 (by decide +kernel)) pgs_nil)))) (fun L hL => (gok_t rfl rfl (gsok_cons (gok_vb (by decide) L hL) (gsok_cons (gok_vb (by decide) L hL) gsok_nil)))) (fun _ _ _ _ _ C1 => (pts_true pts_nil)) (fun _ _ _ _ _ C1 => (se_tup (g := g0 X.K) (W := W0) (sa_consT (se_v C1 (by decide +kernel)) (sa_consT (se_ix C1 (SOp.v C1 (by decide +kernel)) (SOp.e (se_int (g := g0 X.K) (W := W0))) (fun _ _ => rfl)) (sa_consT (se_int (g := g0 X.K) (W := W0)) sa_nil rfl) rfl) rfl))) (fun _ => rfl))) rfl) sa_nil rfl)) sa_nil rfl) rfl) rfl)))
  sss_nil))
theorem ok_28 {P : Program} {w : World} {K : PySem.W.Frag} {mg : Str → Option Value} {base : Heap} {fd : Nat → FuncData} (T : Dn P w K mg fd) : FnOk P w K mg base (L2.CX P w) 1 (He.fAd K d28.at_) (fd 28) ["signs"] (Prom ⟨g0 K, K⟩ mask_28 c_28) :=
  fn_okC T.f28 S28 rfl (by decide) T.fr fun X W e1 e2 e3 e4 e5 R C => by
    subst e1 e2 e3 e4 e5
    exact b_28 C R T
/-! ### _law_set -/
abbrev N29 : List Str := ["prices", "place", "one"]
abbrev mask_29 : List Bool := [false, false, false]
theorem S29 : FnScope N29 ["prices", "place", "one"] (defScope (top 29)) := ⟨rfl, rfl, rfl, by decide +kernel, rfl, by decide +kernel, by decide +kernel⟩
theorem bind_29 {K : PySem.W.Frag} {f : Addr} {fd : FuncData} (F : FunD K d29.name d29.qual d29.params d29.body d29.scope (d29.dvs K) (d29.kws K) f fd) : Binds K fd ["prices", "place", "one"] [] := FunD.bindsN F fun _ _ _ _ _ _ us hl => match us, hl with | [_, _, _], _ => rfl
def m_29 : MS := (mSeq (mRet (mOp2 addD (.e (mOp2 addD (.e (mSl (mV 0) none (some (mV 1)))) (.e (mTup [.t (mV 2)])))) (.e (mSl (mV 0) (some (mOp2 addD (.v 1) (.e (mC (.int 1))))) none))))
  RS.nx)
def c_29 : List D → RC := callF 3 mask_29 m_29
theorem b_29 {X : Cx} {W : WX} {fd : Nat → FuncData} (C : Cf X W N29 (defScope (top 29)) FR) (R : Room 0 X.A) (T : Dn X.prog X.w X.K X.mg fd) : SSs X (g0 X.K) W (lix 0 mask_29) (defBody (top 29)) m_29 := by
  have h0 : varB N29 (defScope (top 29)) 0 "prices" = true := by decide +kernel
  have h1 : varB N29 (defScope (top 29)) 1 "place" = true := by decide +kernel
  have h2 : varB N29 (defScope (top 29)) 2 "one" = true := by decide +kernel
  unfold m_29
  exact (sss_cons (ss_ret (se_add (SOp.e (se_add (SOp.e (se_slice (se_v C.toCn h0) po_n (po_s (se_v C.toCn h1)))) (SOp.e (se_tup (g := g0 X.K) (W := W) (sa_consT (se_v C.toCn h2) sa_nil rfl))))) (SOp.e (se_slice (se_v C.toCn h0) (po_s (se_add (SOp.v C.toCn h1) (SOp.e (se_int (g := g0 X.K) (W := W))))) po_n))))
  sss_nil)
theorem ok_29 {P : Program} {w : World} {K : PySem.W.Frag} {mg : Str → Option Value} {base : Heap} {fd : Nat → FuncData} (T : Dn P w K mg fd) : FnOk P w K mg base (L2.CX P w) 1 (He.fAd K d29.at_) (fd 29) ["prices", "place", "one"] (Prom ⟨g0 K, K⟩ mask_29 c_29) :=
  fn_okC T.f29 S29 rfl (by decide) T.fr fun X W e1 e2 e3 e4 e5 R C => by
    subst e1 e2 e3 e4 e5
    exact b_29 C R T
/-! ### _law_great -/
abbrev N30 : List Str := ["box", "n", "d"]
abbrev mask_30 : List Bool := [true]
theorem S30 : FnScope N30 ["box"] (defScope (top 30)) := ⟨rfl, rfl, rfl, by decide +kernel, rfl, by decide +kernel, by decide +kernel⟩
theorem bind_30 {K : PySem.W.Frag} {f : Addr} {fd : FuncData} (F : FunD K d30.name d30.qual d30.params d30.body d30.scope (d30.dvs K) (d30.kws K) f fd) : Binds K fd ["box"] [] := FunD.bindsN F fun _ _ _ _ _ _ us hl => match us, hl with | [_], _ => rfl
def m_30 : MS := (mSeq (mAsg (.v 1) (mCall c_22 mask_22 [] [.l 0, .t (mCall c_23 mask_23 [] [.l 0, .t (mLst [.t (mC (.int 10)), .t (mC (.int 100)), .t (mOp2 powD (.e (mC (.int 10))) (.e (mC (.int 9)))), .t (mOp2 powD (.e (mC (.int 10))) (.e (mC (.int 40)))), .t (mOp2 mulD (.e (mOp2 powD (.e (mC (.int 10))) (.e (mC (.int 50))))) (.e (mOp2 powD (.e (mC (.int 10))) (.e (mC (.int 49))))))])])]))
  (mSeq (mAsg (.v 2) (mOp2 addD (.e (mC (.int 1))) (.e (mCall c_22 mask_22 [] [.l 0, .t (mCall c_23 mask_23 [] [.l 0, .t (mLst [.t (mC (.int 1)), .t (mC (.int 10)), .t (mOp2 powD (.e (mC (.int 10))) (.e (mC (.int 9)))), .t (mOp2 powD (.e (mC (.int 10))) (.e (mC (.int 40)))), .t (mOp2 mulD (.e (mOp2 powD (.e (mC (.int 10))) (.e (mC (.int 50))))) (.e (mOp2 powD (.e (mC (.int 10))) (.e (mC (.int 49))))))])])]))))
  (mSeq (mRet (mCall c_26 mask_26 [] [.t (mV 1), .t (mV 2)]))
  RS.nx)))
def c_30 : List D → RC := callF 3 mask_30 m_30
theorem b_30 {X : Cx} {W : WX} {fd : Nat → FuncData} (C : Cf X W N30 (defScope (top 30)) FR) (R : Room 2 X.A) (T : Dn X.prog X.w X.K X.mg fd) : SSs X (g0 X.K) W (lix 0 mask_30) (defBody (top 30)) m_30 := by
  have h0 : varB N30 (defScope (top 30)) 0 "box" = true := by decide +kernel
  have h1 : varB N30 (defScope (top 30)) 1 "n" = true := by decide +kernel
  have h2 : varB N30 (defScope (top 30)) 2 "d" = true := by decide +kernel
  have g__law_lowest : glB (defScope (top 30)) "_law_lowest" = true := by decide +kernel
  have g__law_pick : glB (defScope (top 30)) "_law_pick" = true := by decide +kernel
  have g__law_take : glB (defScope (top 30)) "_law_take" = true := by decide +kernel
  unfold m_30
  exact (sss_cons (ss_setC C (by decide +kernel) (se_call (dvs := []) (ds := []) C.tk (ok_22 T) (R.mono (by decide)) (gl_ok C.toCn g__law_take) T.m22 T.f22.kp (bind_22 T.f22) .nil (fun _ _ => .nil) (sa_consL (pv_ok C.toCn h0) (sa_consT (se_call (dvs := []) (ds := []) C.tk (ok_23 T) (R.mono (by decide)) (gl_ok C.toCn g__law_pick) T.m23 T.f23.kp (bind_23 T.f23) .nil (fun _ _ => .nil) (sa_consL (pv_ok C.toCn h0) (sa_consT (se_lst (g := g0 X.K) (W := W) (sa_consT (se_int (g := g0 X.K) (W := W)) (sa_consT (se_int (g := g0 X.K) (W := W)) (sa_consT (se_pow (SOp.e (se_int (g := g0 X.K) (W := W))) (SOp.e (se_int (g := g0 X.K) (W := W)))) (sa_consT (se_pow (SOp.e (se_int (g := g0 X.K) (W := W))) (SOp.e (se_int (g := g0 X.K) (W := W)))) (sa_consT (se_mul (SOp.e (se_pow (SOp.e (se_int (g := g0 X.K) (W := W))) (SOp.e (se_int (g := g0 X.K) (W := W))))) (SOp.e (se_pow (SOp.e (se_int (g := g0 X.K) (W := W))) (SOp.e (se_int (g := g0 X.K) (W := W)))))) sa_nil rfl) rfl) rfl) rfl) rfl)) sa_nil rfl) rfl) (by decide) rfl rfl) sa_nil rfl) rfl) (by decide) rfl rfl) (by decide) rfl)
  (sss_cons (ss_setC C (by decide +kernel) (se_add (SOp.e (se_int (g := g0 X.K) (W := W))) (SOp.e (se_call (dvs := []) (ds := []) C.tk (ok_22 T) (R.mono (by decide)) (gl_ok C.toCn g__law_take) T.m22 T.f22.kp (bind_22 T.f22) .nil (fun _ _ => .nil) (sa_consL (pv_ok C.toCn h0) (sa_consT (se_call (dvs := []) (ds := []) C.tk (ok_23 T) (R.mono (by decide)) (gl_ok C.toCn g__law_pick) T.m23 T.f23.kp (bind_23 T.f23) .nil (fun _ _ => .nil) (sa_consL (pv_ok C.toCn h0) (sa_consT (se_lst (g := g0 X.K) (W := W) (sa_consT (se_int (g := g0 X.K) (W := W)) (sa_consT (se_int (g := g0 X.K) (W := W)) (sa_consT (se_pow (SOp.e (se_int (g := g0 X.K) (W := W))) (SOp.e (se_int (g := g0 X.K) (W := W)))) (sa_consT (se_pow (SOp.e (se_int (g := g0 X.K) (W := W))) (SOp.e (se_int (g := g0 X.K) (W := W)))) (sa_consT (se_mul (SOp.e (se_pow (SOp.e (se_int (g := g0 X.K) (W := W))) (SOp.e (se_int (g := g0 X.K) (W := W))))) (SOp.e (se_pow (SOp.e (se_int (g := g0 X.K) (W := W))) (SOp.e (se_int (g := g0 X.K) (W := W)))))) sa_nil rfl) rfl) rfl) rfl) rfl)) sa_nil rfl) rfl) (by decide) rfl rfl) sa_nil rfl) rfl) (by decide) rfl rfl))) (by decide) rfl)
  (sss_cons (ss_ret (se_call (dvs := []) (ds := []) C.tk (ok_26 T) (R.mono (by decide)) (gl_ok C.toCn g__law_lowest) T.m26 T.f26.kp (bind_26 T.f26) .nil (fun _ _ => .nil) (sa_consT (se_v C.toCn h1) (sa_consT (se_v C.toCn h2) sa_nil rfl) rfl) (by decide) rfl rfl))
  sss_nil)))
theorem ok_30 {P : Program} {w : World} {K : PySem.W.Frag} {mg : Str → Option Value} {base : Heap} {fd : Nat → FuncData} (T : Dn P w K mg fd) : FnOk P w K mg base (L2.CX P w) 3 (He.fAd K d30.at_) (fd 30) ["box"] (Prom ⟨g0 K, K⟩ mask_30 c_30) :=
  fn_okC T.f30 S30 rfl (by decide) T.fr fun X W e1 e2 e3 e4 e5 R C => by
    subst e1 e2 e3 e4 e5
    exact b_30 C R T
/-! ### _law_odd -/
abbrev N31 : List Str := ["box", "n", "some"]
abbrev mask_31 : List Bool := [true]
theorem S31 : FnScope N31 ["box"] (defScope (top 31)) := ⟨rfl, rfl, rfl, by decide +kernel, rfl, by decide +kernel, by decide +kernel⟩
theorem bind_31 {K : PySem.W.Frag} {f : Addr} {fd : FuncData} (F : FunD K d31.name d31.qual d31.params d31.body d31.scope (d31.dvs K) (d31.kws K) f fd) : Binds K fd ["box"] [] := FunD.bindsN F fun _ _ _ _ _ _ us hl => match us, hl with | [_], _ => rfl
def m_31 : MS := (mSeq (mAsg (.v 1) (mOp2 addD (.e (mC (.int 1))) (.e (mCall c_22 mask_22 [] [.l 0, .t (mC (.int 9))]))))
  (mSeq (mAsg (.v 2) (mLst [.t (mV 1), .t (mC (.int 0)), .t (mC (.str "1")), .t (mTup []), .t (mTup [.t (mV 1)]), .t (mTup [.t (mV 1), .t (mC (.int 1)), .t (mC (.int 1))]), .t (mFz (mLst [.t (mV 1), .t (mC (.int 1))])), .t (mTup [.t (mOp2 subD (.e (mC (.int 0))) (.v 1)), .t (mC (.int 1))]), .t (mTup [.t (mV 1), .t (mC (.int 0))]), .t (mTup [.t (mV 1), .t (mOp2 subD (.e (mC (.int 0))) (.e (mC (.int 1))))]), .t (mTup [.t (mOp2 mulD (.e (mC (.int 2))) (.v 1)), .t (mC (.int 2))]), .t (mTup [.t (mC (.int 0)), .t (mC (.int 2))]), .t (mTup [.t (mC (.bl true)), .t (mC (.int 1))])]))
  (mSeq (mRet (mCall c_23 mask_23 [] [.l 0, .t (mOp2 addD (.v 2) (.e (mLst [.t (mTup [.t (mV 1), .t (mC (.bl true))]), .t (mTup [.t (mV 1), .t (mC .non)]), .t (mTup [.t (mC (.str "1")), .t (mC (.int 1))]), .t (mTup [.t (mTup [.t (mV 1), .t (mC (.int 1))]), .t (mC (.int 1))]), .t (mC (.bl true)), .t (mC (.bl false)), .t (mTup [.t (mOp2 mulD (.e (mC (.int 6))) (.v 1)), .t (mC (.int 4))]), .t (mTup [.t (mC (.int 0)), .t (mC (.int 0))]), .t (mTup [.t (mC (.int 0)), .t (mOp2 subD (.e (mC (.int 0))) (.e (mC (.int 1))))])])))]))
  RS.nx)))
def c_31 : List D → RC := callF 3 mask_31 m_31
theorem b_31 {X : Cx} {W : WX} {fd : Nat → FuncData} (C : Cf X W N31 (defScope (top 31)) FR) (R : Room 2 X.A) (T : Dn X.prog X.w X.K X.mg fd) : SSs X (g0 X.K) W (lix 0 mask_31) (defBody (top 31)) m_31 := by
  have h0 : varB N31 (defScope (top 31)) 0 "box" = true := by decide +kernel
  have h1 : varB N31 (defScope (top 31)) 1 "n" = true := by decide +kernel
  have h2 : varB N31 (defScope (top 31)) 2 "some" = true := by decide +kernel
  have g__law_pick : glB (defScope (top 31)) "_law_pick" = true := by decide +kernel
  have g__law_take : glB (defScope (top 31)) "_law_take" = true := by decide +kernel
  unfold m_31
  exact (sss_cons (ss_setC C (by decide +kernel) (se_add (SOp.e (se_int (g := g0 X.K) (W := W))) (SOp.e (se_call (dvs := []) (ds := []) C.tk (ok_22 T) (R.mono (by decide)) (gl_ok C.toCn g__law_take) T.m22 T.f22.kp (bind_22 T.f22) .nil (fun _ _ => .nil) (sa_consL (pv_ok C.toCn h0) (sa_consT (se_int (g := g0 X.K) (W := W)) sa_nil rfl) rfl) (by decide) rfl rfl))) (by decide) rfl)
  (sss_cons (ss_setC C (by decide +kernel) (se_lst (g := g0 X.K) (W := W) (sa_consT (se_v C.toCn h1) (sa_consT (se_int (g := g0 X.K) (W := W)) (sa_consT (se_str (g := g0 X.K) (W := W)) (sa_consT (se_tup (g := g0 X.K) (W := W) sa_nil) (sa_consT (se_tup (g := g0 X.K) (W := W) (sa_consT (se_v C.toCn h1) sa_nil rfl)) (sa_consT (se_tup (g := g0 X.K) (W := W) (sa_consT (se_v C.toCn h1) (sa_consT (se_int (g := g0 X.K) (W := W)) (sa_consT (se_int (g := g0 X.K) (W := W)) sa_nil rfl) rfl) rfl)) (sa_consT (se_fz (se_lst (g := g0 X.K) (W := W) (sa_consT (se_v C.toCn h1) (sa_consT (se_int (g := g0 X.K) (W := W)) sa_nil rfl) rfl))) (sa_consT (se_tup (g := g0 X.K) (W := W) (sa_consT (se_sub (SOp.e (se_int (g := g0 X.K) (W := W))) (SOp.v C.toCn h1)) (sa_consT (se_int (g := g0 X.K) (W := W)) sa_nil rfl) rfl)) (sa_consT (se_tup (g := g0 X.K) (W := W) (sa_consT (se_v C.toCn h1) (sa_consT (se_int (g := g0 X.K) (W := W)) sa_nil rfl) rfl)) (sa_consT (se_tup (g := g0 X.K) (W := W) (sa_consT (se_v C.toCn h1) (sa_consT (se_sub (SOp.e (se_int (g := g0 X.K) (W := W))) (SOp.e (se_int (g := g0 X.K) (W := W)))) sa_nil rfl) rfl)) (sa_consT (se_tup (g := g0 X.K) (W := W) (sa_consT (se_mul (SOp.e (se_int (g := g0 X.K) (W := W))) (SOp.v C.toCn h1)) (sa_consT (se_int (g := g0 X.K) (W := W)) sa_nil rfl) rfl)) (sa_consT (se_tup (g := g0 X.K) (W := W) (sa_consT (se_int (g := g0 X.K) (W := W)) (sa_consT (se_int (g := g0 X.K) (W := W)) sa_nil rfl) rfl)) (sa_consT (se_tup (g := g0 X.K) (W := W) (sa_consT (se_bl (g := g0 X.K) (W := W)) (sa_consT (se_int (g := g0 X.K) (W := W)) sa_nil rfl) rfl)) sa_nil rfl) rfl) rfl) rfl) rfl) rfl) rfl) rfl) rfl) rfl) rfl) rfl) rfl)) (by decide) rfl)
  (sss_cons (ss_ret (se_call (dvs := []) (ds := []) C.tk (ok_23 T) (R.mono (by decide)) (gl_ok C.toCn g__law_pick) T.m23 T.f23.kp (bind_23 T.f23) .nil (fun _ _ => .nil) (sa_consL (pv_ok C.toCn h0) (sa_consT (se_add (SOp.v C.toCn h2) (SOp.e (se_lst (g := g0 X.K) (W := W) (sa_consT (se_tup (g := g0 X.K) (W := W) (sa_consT (se_v C.toCn h1) (sa_consT (se_bl (g := g0 X.K) (W := W)) sa_nil rfl) rfl)) (sa_consT (se_tup (g := g0 X.K) (W := W) (sa_consT (se_v C.toCn h1) (sa_consT (se_non (g := g0 X.K) (W := W)) sa_nil rfl) rfl)) (sa_consT (se_tup (g := g0 X.K) (W := W) (sa_consT (se_str (g := g0 X.K) (W := W)) (sa_consT (se_int (g := g0 X.K) (W := W)) sa_nil rfl) rfl)) (sa_consT (se_tup (g := g0 X.K) (W := W) (sa_consT (se_tup (g := g0 X.K) (W := W) (sa_consT (se_v C.toCn h1) (sa_consT (se_int (g := g0 X.K) (W := W)) sa_nil rfl) rfl)) (sa_consT (se_int (g := g0 X.K) (W := W)) sa_nil rfl) rfl)) (sa_consT (se_bl (g := g0 X.K) (W := W)) (sa_consT (se_bl (g := g0 X.K) (W := W)) (sa_consT (se_tup (g := g0 X.K) (W := W) (sa_consT (se_mul (SOp.e (se_int (g := g0 X.K) (W := W))) (SOp.v C.toCn h1)) (sa_consT (se_int (g := g0 X.K) (W := W)) sa_nil rfl) rfl)) (sa_consT (se_tup (g := g0 X.K) (W := W) (sa_consT (se_int (g := g0 X.K) (W := W)) (sa_consT (se_int (g := g0 X.K) (W := W)) sa_nil rfl) rfl)) (sa_consT (se_tup (g := g0 X.K) (W := W) (sa_consT (se_int (g := g0 X.K) (W := W)) (sa_consT (se_sub (SOp.e (se_int (g := g0 X.K) (W := W))) (SOp.e (se_int (g := g0 X.K) (W := W)))) sa_nil rfl) rfl)) sa_nil rfl) rfl) rfl) rfl) rfl) rfl) rfl) rfl) rfl)))) sa_nil rfl) rfl) (by decide) rfl rfl))
  sss_nil)))
theorem ok_31 {P : Program} {w : World} {K : PySem.W.Frag} {mg : Str → Option Value} {base : Heap} {fd : Nat → FuncData} (T : Dn P w K mg fd) : FnOk P w K mg base (L2.CX P w) 3 (He.fAd K d31.at_) (fd 31) ["box"] (Prom ⟨g0 K, K⟩ mask_31 c_31) :=
  fn_okC T.f31 S31 rfl (by decide) T.fr fun X W e1 e2 e3 e4 e5 R C => by
    subst e1 e2 e3 e4 e5
    exact b_31 C R T
/-! ### _law_told -/
abbrev N32 : List Str := ["marked", "value", "named", "e"]
abbrev mask_32 : List Bool := [false, false, false]
theorem S32 : FnScope N32 ["marked", "value", "named"] (defScope (top 32)) := ⟨rfl, rfl, rfl, by decide +kernel, rfl, by decide +kernel, by decide +kernel⟩
theorem bind_32 {K : PySem.W.Frag} {f : Addr} {fd : FuncData} (F : FunD K d32.name d32.qual d32.params d32.body d32.scope (d32.dvs K) (d32.kws K) f fd) : Binds K fd ["marked", "value", "named"] [] := FunD.bindsN F fun _ _ _ _ _ _ us hl => match us, hl with | [_, _, _], _ => rfl
def m_32 : MS := (mSeq (mTryS 3 cg_0 (fun c => decide (c = 4)) "refused" (mSeq (mRet (mTup [.t (mC (.str "told")), .t (mIf (mTru (.v 2)) (mCallK c_19 [] [.a 1, .a 0] [(mV 1), (mV 0)]) (mCall c_19 mask_19 [] [.t (mV 0), .t (mV 1)]))]))
  RS.nx))
  RS.nx)
def c_32 : List D → RC := callF 4 mask_32 m_32
theorem b_32 {X : Cx} {W : WX} {fd : Nat → FuncData} (C : Cf X W N32 (defScope (top 32)) FR) (R : Room 5 X.A) (T : Dn X.prog X.w X.K X.mg fd) : SSs X (g0 X.K) W (lix 0 mask_32) (defBody (top 32)) m_32 := by
  have h0 : varB N32 (defScope (top 32)) 0 "marked" = true := by decide +kernel
  have h1 : varB N32 (defScope (top 32)) 1 "value" = true := by decide +kernel
  have h2 : varB N32 (defScope (top 32)) 2 "named" = true := by decide +kernel
  have g_BadFraction : glB (defScope (top 32)) "BadFraction" = true := by decide +kernel
  have g_BadMarked : glB (defScope (top 32)) "BadMarked" = true := by decide +kernel
  have g_BadPoint : glB (defScope (top 32)) "BadPoint" = true := by decide +kernel
  have g_BadPrices : glB (defScope (top 32)) "BadPrices" = true := by decide +kernel
  have g_OwnError : glB (defScope (top 32)) "OwnError" = true := by decide +kernel
  have g_Refused : glB (defScope (top 32)) "Refused" = true := by decide +kernel
  have g_check_prices : glB (defScope (top 32)) "check_prices" = true := by decide +kernel
  have g_isinstance : glB (defScope (top 32)) "isinstance" = true := by decide +kernel
  unfold m_32
  exact (sss_cons (ss_tryS (cc := 0) (cg := cg_0) (al := fun c => decide (c = 4)) C g_OwnError T.mx0 (by decide) (by decide +kernel) (by decide) (cg_ok_0 T) (fun pn xe W C => (sss_cons (ss_ret (se_tup (g := g0 X.K) (W := W) (sa_consT (se_str (g := g0 X.K) (W := W)) (sa_consT (se_if (st_tru (SOp.v C.toCn h2) (fun _ => rfl)) (se_callK0 (dvs := []) (dus := []) C.tk (ok_19 T) (R.mono (by decide)) (gl_ok C.toCn g_check_prices) T.m19 T.f19.kp (kb_19_0 T.f19) (fun _ _ => .nil) rfl rfl (sk_cons (se_v C.toCn h1) (sk_cons (se_v C.toCn h0) sk_nil)) rfl rfl (by decide) rfl) (se_call (dvs := []) (ds := []) C.tk (ok_19 T) (R.mono (by decide)) (gl_ok C.toCn g_check_prices) T.m19 T.f19.kp (bind_19 T.f19) .nil (fun _ _ => .nil) (sa_consT (se_v C.toCn h0) (sa_consT (se_v C.toCn h1) sa_nil rfl) rfl) (by decide) rfl rfl)) sa_nil rfl) rfl)))
  sss_nil)) (fun c a dd oe pn h1 h2 hz hf => by
    have h3 : c = 4 := by simpa using h2
    rcases h3 with rfl
    · exact (g_cons (g_if (gt_bool (gw_or (gt_not (gt_is T.xe4 hz hf (gl_ok C.toCn g_isinstance) (T.fr _ fr_isinstance) (gl_ok C.toCn g_BadPrices) T.mx4 (locL_ok C.toCn (i := 3) (by decide +kernel)).1 (.inl (locL_ok C.toCn (i := 3) (by decide +kernel)).2) (by decide) (by decide) T.kt4_4 (by decide) rfl rfl rfl (fun _ => rfl))) (gw_or (gt_is T.xe4 hz hf (gl_ok C.toCn g_isinstance) (T.fr _ fr_isinstance) (gl_ok C.toCn g_BadFraction) T.mx1 (locL_ok C.toCn (i := 3) (by decide +kernel)).1 (.inl (locL_ok C.toCn (i := 3) (by decide +kernel)).2) (by decide) (by decide) T.kt4_1 (by decide) rfl rfl rfl (fun _ => rfl)) (gw_or1 (gt_is T.xe4 hz hf (gl_ok C.toCn g_isinstance) (T.fr _ fr_isinstance) (gl_ok C.toCn g_BadPoint) T.mx2 (locL_ok C.toCn (i := 3) (by decide +kernel)).1 (.inl (locL_ok C.toCn (i := 3) (by decide +kernel)).2) (by decide) (by decide) T.kt4_2 (by decide) rfl rfl rfl (fun _ => rfl)))))) (by decide) (atL0 (sss_cons (ss_ret (se_tup (g := g0 X.K) (W := W0) (sa_consT (se_str (g := g0 X.K) (W := W0)) (sa_consT (se_int (g := g0 X.K) (W := W0)) sa_nil rfl) rfl)))
  sss_nil))) (g_cons (g_if (gt_bool (gw_or (gt_is T.xe4 hz hf (gl_ok C.toCn g_isinstance) (T.fr _ fr_isinstance) (gl_ok C.toCn g_BadMarked) T.mx3 (locL_ok C.toCn (i := 3) (by decide +kernel)).1 (.inl (locL_ok C.toCn (i := 3) (by decide +kernel)).2) (by decide) (by decide) T.kt4_3 (by decide) rfl rfl rfl (fun _ => rfl)) (gw_or1 (gt_is T.xe4 hz hf (gl_ok C.toCn g_isinstance) (T.fr _ fr_isinstance) (gl_ok C.toCn g_Refused) T.mx5 (locL_ok C.toCn (i := 3) (by decide +kernel)).1 (.inl (locL_ok C.toCn (i := 3) (by decide +kernel)).2) (by decide) (by decide) T.kt4_5 (by decide) rfl rfl rfl (fun _ => rfl))))) (by decide) (atL0 (sss_cons (ss_ret (se_tup (g := g0 X.K) (W := W0) (sa_consT (se_str (g := g0 X.K) (W := W0)) (sa_consT (se_int (g := g0 X.K) (W := W0)) sa_nil rfl) rfl)))
  sss_nil))) (g_tell T.xf4 T.xo4 rfl hz hf (locL_ok C.toCn (i := 3) (by decide +kernel)).1 (.inl (locL_ok C.toCn (i := 3) (by decide +kernel)).2) (by decide) (by decide) rfl rfl rfl)))
))
  sss_nil)
theorem ok_32 {P : Program} {w : World} {K : PySem.W.Frag} {mg : Str → Option Value} {base : Heap} {fd : Nat → FuncData} (T : Dn P w K mg fd) : FnOk P w K mg base (L2.CX P w) 6 (He.fAd K d32.at_) (fd 32) ["marked", "value", "named"] (Prom ⟨g0 K, K⟩ mask_32 c_32) :=
  fn_okC T.f32 S32 rfl (by decide) T.fr fun X W e1 e2 e3 e4 e5 R C => by
    subst e1 e2 e3 e4 e5
    exact b_32 C R T
/-! ### _law_right -/
abbrev N33 : List Str := ["box", "marked", "many", "prices", "named", "value", "wrong", "turn", "place", "later"]
abbrev mask_33 : List Bool := [true, false, false]
theorem S33 : FnScope N33 ["box", "marked", "many"] (defScope (top 33)) := ⟨rfl, rfl, rfl, by decide +kernel, rfl, by decide +kernel, by decide +kernel⟩
theorem bind_33 {K : PySem.W.Frag} {f : Addr} {fd : FuncData} (F : FunD K d33.name d33.qual d33.params d33.body d33.scope (d33.dvs K) (d33.kws K) f fd) : Binds K fd ["box", "marked", "many"] [] := FunD.bindsN F fun _ _ _ _ _ _ us hl => match us, hl with | [_, _, _], _ => rfl
def s_33_1 : MS := (mSeq (mPar [8, 9] [.t (mCall c_22 mask_22 [] [.l 0, .t (mOp2 addD (.v 2) (.e (mC (.int 3))))]), .t (mCall c_22 mask_22 [] [.l 0, .t (mOp2 addD (.v 2) (.e (mC (.int 3))))])])
  (mSeq (mAsg (.v 5) (mCall c_29 mask_29 [] [.t (mCall c_29 mask_29 [] [.t (mV 3), .t (mV 9), .t (mCall c_31 mask_31 [] [.l 0])]), .t (mV 8), .t (mCall c_31 mask_31 [] [.l 0])]))
  (mSeq (mIfS (mTAnd (mOp2 (cmpD fun i j => decide (i < j)) (.v 7) (.e (mC (.int 2)))) (mOp2 (cmpD fun i j => decide (i < j)) (.v 8) (.e (mOp2 addD (.v 2) (.e (mC (.int 2))))))) (mSeq (mAsg (.v 5) (mCall c_29 mask_29 [] [.t (mCall c_29 mask_29 [] [.t (mV 3), .t (mOp2 addD (.v 2) (.e (mC (.int 2)))), .t (mC .non)]), .t (mV 8), .t (mC .non)]))
  (mSeq (mAsg (.v 9) (mV 8))
  RS.nx)) RS.nx)
  (mSeq (mIfS (mTNot (mTru (.e (mCall (c_24 40) mask_24 [] [.t (mCall c_32 mask_32 [] [.t (mV 1), .t (mV 5), .t (mV 4)]), .t (mTup [.t (mC (.str "refused")), .t (mOp2 min2D (.v 8) (.v 9))])])))) (mSeq (mRet (mC (.bl false)))
  RS.nx) RS.nx)
  RS.nx))))
def s_33_2 : MS := (mSeq (mIfS (mTNot (mTru (.e (mCall (c_24 40) mask_24 [] [.t (mCall c_32 mask_32 [] [.t (mV 1), .t (mV 5), .t (mV 4)]), .t (mTup [.t (mC (.str "refused")), .t (mOp2 subD (.e (mC (.int 0))) (.e (mC (.int 1))))])])))) (mSeq (mRet (mC (.bl false)))
  RS.nx) RS.nx)
  RS.nx)
def s_33_3 : MS := (mSeq (mIfS (mTNot (mTru (.e (mCall (c_24 40) mask_24 [] [.t (mCall c_32 mask_32 [] [.t (mV 1), .t (mV 5), .t (mV 4)]), .t (mTup [.t (mC (.str "told")), .t (mV 5)])])))) (mSeq (mRet (mC (.bl false)))
  RS.nx) RS.nx)
  RS.nx)
def q_33_4 : ME := (mFz (mCall c_30 mask_30 [] [.l 0]))
def m_33 : MS := (mSeq (mAsg (.v 3) (mOp1 tupleD (.e (mLc [8] (.v 8) (mRg1 (mOp2 addD (.v 2) (.e (mC (.int 3))))) mTrue q_33_4))))
  (mSeq (mAsg (.v 4) (mOp2 eqD (.e (mCall c_22 mask_22 [] [.l 0, .t (mC (.int 2))])) (.e (mC (.int 0)))))
  (mSeq (mFor [] (.v 5) (mIt (mLst [.t (mV 3), .t (mFz (mCall c_29 mask_29 [] [.t (mV 3), .t (mOp2 addD (.v 2) (.e (mC (.int 2)))), .t (mC .non)]))])) s_33_3)
  (mSeq (mAsg (.v 6) (mLst [.t (mC .non), .t (mC (.int 7)), .t (mC (.bl true)), .t (mC (.str "prices")), .t (mTup []), .t (mFz (mOp1 listD (.v 3))), .t (mSl (mV 3) none (some (mOp2 addD (.v 2) (.e (mC (.int 2)))))), .t (mOp2 addD (.v 3) (.e (mTup [.t (mTup [.t (mC (.int 1)), .t (mC (.int 1))])]))), .t (mTup [.t (mV 3)]), .t (mFz (mLst [])), .t (mTup [.t (mTup [.t (mC (.int 1)), .t (mC (.int 2))])])]))
  (mSeq (mFor [] (.v 5) (mIt (mV 6)) s_33_2)
  (mSeq (mFor [] (.v 7) (mRg1 (mC (.int 8))) s_33_1)
  (mSeq (mRet (mC (.bl true)))
  RS.nx)))))))
def c_33 : List D → RC := callF 10 mask_33 m_33
theorem b_33 {X : Cx} {W : WX} {fd : Nat → FuncData} (C : Cf X W N33 (defScope (top 33)) FR) (R : Room 40 X.A) (T : Dn X.prog X.w X.K X.mg fd) : SSs X (g0 X.K) W (lix 0 mask_33) (defBody (top 33)) m_33 := by
  have h0 : varB N33 (defScope (top 33)) 0 "box" = true := by decide +kernel
  have h1 : varB N33 (defScope (top 33)) 1 "marked" = true := by decide +kernel
  have h2 : varB N33 (defScope (top 33)) 2 "many" = true := by decide +kernel
  have h3 : varB N33 (defScope (top 33)) 3 "prices" = true := by decide +kernel
  have h4 : varB N33 (defScope (top 33)) 4 "named" = true := by decide +kernel
  have h5 : varB N33 (defScope (top 33)) 5 "value" = true := by decide +kernel
  have h6 : varB N33 (defScope (top 33)) 6 "wrong" = true := by decide +kernel
  have h7 : varB N33 (defScope (top 33)) 7 "turn" = true := by decide +kernel
  have h8 : varB N33 (defScope (top 33)) 8 "place" = true := by decide +kernel
  have h9 : varB N33 (defScope (top 33)) 9 "later" = true := by decide +kernel
  have g__law_odd : glB (defScope (top 33)) "_law_odd" = true := by decide +kernel
  have g__law_same : glB (defScope (top 33)) "_law_same" = true := by decide +kernel
  have g__law_set : glB (defScope (top 33)) "_law_set" = true := by decide +kernel
  have g__law_take : glB (defScope (top 33)) "_law_take" = true := by decide +kernel
  have g__law_told : glB (defScope (top 33)) "_law_told" = true := by decide +kernel
  have g_list : glB (defScope (top 33)) "list" = true := by decide +kernel
  have g_min : glB (defScope (top 33)) "min" = true := by decide +kernel
  have g_range : glB (defScope (top 33)) "range" = true := by decide +kernel
  have g_tuple : glB (defScope (top 33)) "tuple" = true := by decide +kernel
  unfold m_33
  exact (sss_cons (ss_setC C (by decide +kernel) (se_tuple C.toCn fr_tuple g_tuple (SOp.e (se_lcC (own' := [("place", 8)]) (t := (.v 8)) C.toCn (si_rg1 C.toCn fr_range g_range (se_add (SOp.v C.toCn h2) (SOp.e (se_int (g := g0 X.K) (W := W)))) rfl) (by decide +kernel) (fun _ _ _ _ _ C1 => (pg_b C1 (by decide +kernel))) (fun L hL => (gok_vb (by decide) L hL)) (fun _ _ _ _ _ C1 => (pts_true pts_nil)) (fun _ _ _ _ _ C1 => (se_fz (se_call (dvs := []) (ds := []) EV.takes0 (ok_30 T) (R.mono (by decide)) (gl_ok C1 (by decide +kernel)) T.m30 T.f30.kp (bind_30 T.f30) .nil (fun _ _ => .nil) (sa_consL (pv_ok C1 (by decide +kernel)) sa_nil rfl) (by decide) rfl rfl))) (fun _ => rfl))) rfl) (by decide) rfl)
  (sss_cons (ss_setC C (by decide +kernel) (se_eq C.toCn (SOp.e (se_call (dvs := []) (ds := []) C.tk (ok_22 T) (R.mono (by decide)) (gl_ok C.toCn g__law_take) T.m22 T.f22.kp (bind_22 T.f22) .nil (fun _ _ => .nil) (sa_consL (pv_ok C.toCn h0) (sa_consT (se_int (g := g0 X.K) (W := W)) sa_nil rfl) rfl) (by decide) rfl rfl)) (SOp.e (se_int (g := g0 X.K) (W := W)))) (by decide) rfl)
  (sss_cons (ss_for (Ls := []) (t := (.v 5)) C.po C.calm (si_seq (se_lst (g := g0 X.K) (W := W) (sa_consT (se_v C.toCn h3) (sa_consT (se_fz (se_call (dvs := []) (ds := []) C.tk (ok_29 T) (R.mono (by decide)) (gl_ok C.toCn g__law_set) T.m29 T.f29.kp (bind_29 T.f29) .nil (fun _ _ => .nil) (sa_consT (se_v C.toCn h3) (sa_consT (se_add (SOp.v C.toCn h2) (SOp.e (se_int (g := g0 X.K) (W := W)))) (sa_consT (se_non (g := g0 X.K) (W := W)) sa_nil rfl) rfl) rfl) (by decide) rfl rfl)) sa_nil rfl) rfl))) (pg_f C (by decide +kernel)) (gok_v (by decide)) (sss_cons (ss_if (st_not (st_tru (SOp.e (se_call (dvs := []) (ds := []) C.tk (ok_24 T 40) (R.mono (by decide)) (gl_ok C.toCn g__law_same) T.m24 T.f24.kp (bind_24 T.f24) .nil (fun _ _ => .nil) (sa_consT (se_call (dvs := []) (ds := []) C.tk (ok_32 T) (R.mono (by decide)) (gl_ok C.toCn g__law_told) T.m32 T.f32.kp (bind_32 T.f32) .nil (fun _ _ => .nil) (sa_consT (se_v C.toCn h1) (sa_consT (se_v C.toCn h5) (sa_consT (se_v C.toCn h4) sa_nil rfl) rfl) rfl) (by decide) rfl rfl) (sa_consT (se_tup (g := g0 X.K) (W := W) (sa_consT (se_str (g := g0 X.K) (W := W)) (sa_consT (se_v C.toCn h5) sa_nil rfl) rfl)) sa_nil rfl) rfl) (by decide) rfl rfl)) (fun _ => rfl))) (sss_cons (ss_ret (se_bl (g := g0 X.K) (W := W)))
  sss_nil) sss_nil)
  sss_nil) (fun _ => rfl))
  (sss_cons (ss_setC C (by decide +kernel) (se_lst (g := g0 X.K) (W := W) (sa_consT (se_non (g := g0 X.K) (W := W)) (sa_consT (se_int (g := g0 X.K) (W := W)) (sa_consT (se_bl (g := g0 X.K) (W := W)) (sa_consT (se_str (g := g0 X.K) (W := W)) (sa_consT (se_tup (g := g0 X.K) (W := W) sa_nil) (sa_consT (se_fz (se_list C.toCn fr_list g_list (SOp.v C.toCn h3) rfl)) (sa_consT (se_slice (se_v C.toCn h3) po_n (po_s (se_add (SOp.v C.toCn h2) (SOp.e (se_int (g := g0 X.K) (W := W)))))) (sa_consT (se_add (SOp.v C.toCn h3) (SOp.e (se_tup (g := g0 X.K) (W := W) (sa_consT (se_tup (g := g0 X.K) (W := W) (sa_consT (se_int (g := g0 X.K) (W := W)) (sa_consT (se_int (g := g0 X.K) (W := W)) sa_nil rfl) rfl)) sa_nil rfl)))) (sa_consT (se_tup (g := g0 X.K) (W := W) (sa_consT (se_v C.toCn h3) sa_nil rfl)) (sa_consT (se_fz (se_lst (g := g0 X.K) (W := W) sa_nil)) (sa_consT (se_tup (g := g0 X.K) (W := W) (sa_consT (se_tup (g := g0 X.K) (W := W) (sa_consT (se_int (g := g0 X.K) (W := W)) (sa_consT (se_int (g := g0 X.K) (W := W)) sa_nil rfl) rfl)) sa_nil rfl)) sa_nil rfl) rfl) rfl) rfl) rfl) rfl) rfl) rfl) rfl) rfl) rfl)) (by decide) rfl)
  (sss_cons (ss_for (Ls := []) (t := (.v 5)) C.po C.calm (si_seq (se_v C.toCn h6)) (pg_f C (by decide +kernel)) (gok_v (by decide)) (sss_cons (ss_if (st_not (st_tru (SOp.e (se_call (dvs := []) (ds := []) C.tk (ok_24 T 40) (R.mono (by decide)) (gl_ok C.toCn g__law_same) T.m24 T.f24.kp (bind_24 T.f24) .nil (fun _ _ => .nil) (sa_consT (se_call (dvs := []) (ds := []) C.tk (ok_32 T) (R.mono (by decide)) (gl_ok C.toCn g__law_told) T.m32 T.f32.kp (bind_32 T.f32) .nil (fun _ _ => .nil) (sa_consT (se_v C.toCn h1) (sa_consT (se_v C.toCn h5) (sa_consT (se_v C.toCn h4) sa_nil rfl) rfl) rfl) (by decide) rfl rfl) (sa_consT (se_tup (g := g0 X.K) (W := W) (sa_consT (se_str (g := g0 X.K) (W := W)) (sa_consT (se_sub (SOp.e (se_int (g := g0 X.K) (W := W))) (SOp.e (se_int (g := g0 X.K) (W := W)))) sa_nil rfl) rfl)) sa_nil rfl) rfl) (by decide) rfl rfl)) (fun _ => rfl))) (sss_cons (ss_ret (se_bl (g := g0 X.K) (W := W)))
  sss_nil) sss_nil)
  sss_nil) (fun _ => rfl))
  (sss_cons (ss_for (Ls := []) (t := (.v 7)) C.po C.calm (si_rg1 C.toCn fr_range g_range (se_int (g := g0 X.K) (W := W)) rfl) (pg_f C (by decide +kernel)) (gok_v (by decide)) (sss_cons (ss_parC C (by decide +kernel) (by decide +kernel) (by decide) (sa_consT (se_call (dvs := []) (ds := []) C.tk (ok_22 T) (R.mono (by decide)) (gl_ok C.toCn g__law_take) T.m22 T.f22.kp (bind_22 T.f22) .nil (fun _ _ => .nil) (sa_consL (pv_ok C.toCn h0) (sa_consT (se_add (SOp.v C.toCn h2) (SOp.e (se_int (g := g0 X.K) (W := W)))) sa_nil rfl) rfl) (by decide) rfl rfl) (sa_consT (se_call (dvs := []) (ds := []) C.tk (ok_22 T) (R.mono (by decide)) (gl_ok C.toCn g__law_take) T.m22 T.f22.kp (bind_22 T.f22) .nil (fun _ _ => .nil) (sa_consL (pv_ok C.toCn h0) (sa_consT (se_add (SOp.v C.toCn h2) (SOp.e (se_int (g := g0 X.K) (W := W)))) sa_nil rfl) rfl) (by decide) rfl rfl) sa_nil rfl) rfl) (by kernel_rfl) (by decide))
  (sss_cons (ss_setC C (by decide +kernel) (se_call (dvs := []) (ds := []) C.tk (ok_29 T) (R.mono (by decide)) (gl_ok C.toCn g__law_set) T.m29 T.f29.kp (bind_29 T.f29) .nil (fun _ _ => .nil) (sa_consT (se_call (dvs := []) (ds := []) C.tk (ok_29 T) (R.mono (by decide)) (gl_ok C.toCn g__law_set) T.m29 T.f29.kp (bind_29 T.f29) .nil (fun _ _ => .nil) (sa_consT (se_v C.toCn h3) (sa_consT (se_v C.toCn h9) (sa_consT (se_call (dvs := []) (ds := []) C.tk (ok_31 T) (R.mono (by decide)) (gl_ok C.toCn g__law_odd) T.m31 T.f31.kp (bind_31 T.f31) .nil (fun _ _ => .nil) (sa_consL (pv_ok C.toCn h0) sa_nil rfl) (by decide) rfl rfl) sa_nil rfl) rfl) rfl) (by decide) rfl rfl) (sa_consT (se_v C.toCn h8) (sa_consT (se_call (dvs := []) (ds := []) C.tk (ok_31 T) (R.mono (by decide)) (gl_ok C.toCn g__law_odd) T.m31 T.f31.kp (bind_31 T.f31) .nil (fun _ _ => .nil) (sa_consL (pv_ok C.toCn h0) sa_nil rfl) (by decide) rfl rfl) sa_nil rfl) rfl) rfl) (by decide) rfl rfl) (by decide) rfl)
  (sss_cons (ss_if (st_bool (sw_and (st_lt (SOp.v C.toCn h7) (SOp.e (se_int (g := g0 X.K) (W := W)))) (sw_and1 (st_lt (SOp.v C.toCn h8) (SOp.e (se_add (SOp.v C.toCn h2) (SOp.e (se_int (g := g0 X.K) (W := W))))))))) (sss_cons (ss_setC C (by decide +kernel) (se_call (dvs := []) (ds := []) C.tk (ok_29 T) (R.mono (by decide)) (gl_ok C.toCn g__law_set) T.m29 T.f29.kp (bind_29 T.f29) .nil (fun _ _ => .nil) (sa_consT (se_call (dvs := []) (ds := []) C.tk (ok_29 T) (R.mono (by decide)) (gl_ok C.toCn g__law_set) T.m29 T.f29.kp (bind_29 T.f29) .nil (fun _ _ => .nil) (sa_consT (se_v C.toCn h3) (sa_consT (se_add (SOp.v C.toCn h2) (SOp.e (se_int (g := g0 X.K) (W := W)))) (sa_consT (se_non (g := g0 X.K) (W := W)) sa_nil rfl) rfl) rfl) (by decide) rfl rfl) (sa_consT (se_v C.toCn h8) (sa_consT (se_non (g := g0 X.K) (W := W)) sa_nil rfl) rfl) rfl) (by decide) rfl rfl) (by decide) rfl)
  (sss_cons (ss_setC C (by decide +kernel) (se_v C.toCn h8) (by decide) rfl)
  sss_nil)) sss_nil)
  (sss_cons (ss_if (st_not (st_tru (SOp.e (se_call (dvs := []) (ds := []) C.tk (ok_24 T 40) (R.mono (by decide)) (gl_ok C.toCn g__law_same) T.m24 T.f24.kp (bind_24 T.f24) .nil (fun _ _ => .nil) (sa_consT (se_call (dvs := []) (ds := []) C.tk (ok_32 T) (R.mono (by decide)) (gl_ok C.toCn g__law_told) T.m32 T.f32.kp (bind_32 T.f32) .nil (fun _ _ => .nil) (sa_consT (se_v C.toCn h1) (sa_consT (se_v C.toCn h5) (sa_consT (se_v C.toCn h4) sa_nil rfl) rfl) rfl) (by decide) rfl rfl) (sa_consT (se_tup (g := g0 X.K) (W := W) (sa_consT (se_str (g := g0 X.K) (W := W)) (sa_consT (se_min2 C.toCn fr_min g_min (SOp.v C.toCn h8) (SOp.v C.toCn h9) rfl rfl rfl) sa_nil rfl) rfl)) sa_nil rfl) rfl) (by decide) rfl rfl)) (fun _ => rfl))) (sss_cons (ss_ret (se_bl (g := g0 X.K) (W := W)))
  sss_nil) sss_nil)
  sss_nil)))) (fun _ => rfl))
  (sss_cons (ss_ret (se_bl (g := g0 X.K) (W := W)))
  sss_nil)))))))
theorem ok_33 {P : Program} {w : World} {K : PySem.W.Frag} {mg : Str → Option Value} {base : Heap} {fd : Nat → FuncData} (T : Dn P w K mg fd) : FnOk P w K mg base (L2.CX P w) 41 (He.fAd K d33.at_) (fd 33) ["box", "marked", "many"] (Prom ⟨g0 K, K⟩ mask_33 c_33) :=
  fn_okC T.f33 S33 rfl (by decide) T.fr fun X W e1 e2 e3 e4 e5 R C => by
    subst e1 e2 e3 e4 e5
    exact b_33 C R T
/-! ### law -/
abbrev N34 : List Str := ["script", "bare", "k", "box", "many", "marked"]
abbrev mask_34 : List Bool := [false]
theorem S34 : FnScope N34 ["script"] (defScope (top 34)) := ⟨rfl, rfl, rfl, by decide +kernel, rfl, by decide +kernel, by decide +kernel⟩
theorem bind_34 {K : PySem.W.Frag} {f : Addr} {fd : FuncData} (F : FunD K d34.name d34.qual d34.params d34.body d34.scope (d34.dvs K) (d34.kws K) f fd) : Binds K fd ["script"] [] := FunD.bindsN F fun _ _ _ _ _ _ us hl => match us, hl with | [_], _ => rfl
def s_34_1 : MS := (mSeq (mAsg (.v 3) (mCall c_21 mask_21 [] [.t (mV 0), .t (mV 2)]))
  (mSeq (mAsg (.v 4) (mOp2 addD (.e (mC (.int 1))) (.e (mCall c_22 mask_22 [] [.l 3, .t (mC (.int 4))]))))
  (mSeq (mAsg (.v 5) (mCall c_28 mask_28 [] [.t (mLst [.t (mTup [.t (mCall c_22 mask_22 [] [.l 3, .t (mC (.int 5))]), .t (mC (.int 1)), .t (mCall c_27 mask_27 [] [.l 3, .t (mV 4)])])])]))
  (mSeq (mIfS (mTNot (mTru (.e (mCall c_33 mask_33 [] [.l 3, .t (mV 5), .t (mV 4)])))) (mSeq (mRet (mC (.bl false)))
  RS.nx) RS.nx)
  (mSeq (mIfS (mTNot (mTru (.e (mCall c_33 mask_33 [] [.l 3, .t (mTup [.t (mV 1), .t (mV 1), .t (mTup [.t (mTup [.t (mC .non), .t (mC .non)])])]), .t (mC (.int 1))])))) (mSeq (mRet (mC (.bl false)))
  RS.nx) RS.nx)
  RS.nx)))))
def m_34 : MS := (mSeq (mAsg (.v 1) (mTup [.t (mTup [.t (mTup [.t (mC (.int 0))])]), .t (mTup [.t (mTup [.t (mC (.int 1))])])]))
  (mSeq (mFor [] (.v 2) (mRg1 (mOp2 max2D (.e (mC (.int 2))) (.e (mOp2 min2D (.e (mOp1 lenD (.v 0))) (.e (mC (.int 5))))))) s_34_1)
  (mSeq (mRet (mC (.bl true)))
  RS.nx)))
def c_34 : List D → RC := callF 6 mask_34 m_34
theorem b_34 {X : Cx} {W : WX} {fd : Nat → FuncData} (C : Cf X W N34 (defScope (top 34)) FR) (R : Room 41 X.A) (T : Dn X.prog X.w X.K X.mg fd) : SSs X (g0 X.K) W (lix 0 mask_34) (defBody (top 34)) m_34 := by
  have h0 : varB N34 (defScope (top 34)) 0 "script" = true := by decide +kernel
  have h1 : varB N34 (defScope (top 34)) 1 "bare" = true := by decide +kernel
  have h2 : varB N34 (defScope (top 34)) 2 "k" = true := by decide +kernel
  have h3 : varB N34 (defScope (top 34)) 3 "box" = true := by decide +kernel
  have h4 : varB N34 (defScope (top 34)) 4 "many" = true := by decide +kernel
  have h5 : varB N34 (defScope (top 34)) 5 "marked" = true := by decide +kernel
  have g__law_box : glB (defScope (top 34)) "_law_box" = true := by decide +kernel
  have g__law_marks : glB (defScope (top 34)) "_law_marks" = true := by decide +kernel
  have g__law_right : glB (defScope (top 34)) "_law_right" = true := by decide +kernel
  have g__law_ring : glB (defScope (top 34)) "_law_ring" = true := by decide +kernel
  have g__law_take : glB (defScope (top 34)) "_law_take" = true := by decide +kernel
  have g_len : glB (defScope (top 34)) "len" = true := by decide +kernel
  have g_max : glB (defScope (top 34)) "max" = true := by decide +kernel
  have g_min : glB (defScope (top 34)) "min" = true := by decide +kernel
  have g_range : glB (defScope (top 34)) "range" = true := by decide +kernel
  unfold m_34
  exact (sss_cons (ss_setC C (by decide +kernel) (se_tup (g := g0 X.K) (W := W) (sa_consT (se_tup (g := g0 X.K) (W := W) (sa_consT (se_tup (g := g0 X.K) (W := W) (sa_consT (se_int (g := g0 X.K) (W := W)) sa_nil rfl)) sa_nil rfl)) (sa_consT (se_tup (g := g0 X.K) (W := W) (sa_consT (se_tup (g := g0 X.K) (W := W) (sa_consT (se_int (g := g0 X.K) (W := W)) sa_nil rfl)) sa_nil rfl)) sa_nil rfl) rfl)) (by decide) rfl)
  (sss_cons (ss_for (Ls := []) (t := (.v 2)) C.po C.calm (si_rg1 C.toCn fr_range g_range (se_max2 C.toCn fr_max g_max (SOp.e (se_int (g := g0 X.K) (W := W))) (SOp.e (se_min2 C.toCn fr_min g_min (SOp.e (se_len C.toCn fr_len g_len (SOp.v C.toCn h0) rfl)) (SOp.e (se_int (g := g0 X.K) (W := W))) rfl rfl rfl)) rfl rfl rfl) rfl) (pg_f C (by decide +kernel)) (gok_v (by decide)) (sss_cons (ss_setC C (by decide +kernel) (se_call (dvs := []) (ds := []) C.tk (ok_21 T) (R.mono (by decide)) (gl_ok C.toCn g__law_box) T.m21 T.f21.kp (bind_21 T.f21) .nil (fun _ _ => .nil) (sa_consT (se_v C.toCn h0) (sa_consT (se_v C.toCn h2) sa_nil rfl) rfl) (by decide) rfl rfl) (by decide) rfl)
  (sss_cons (ss_setC C (by decide +kernel) (se_add (SOp.e (se_int (g := g0 X.K) (W := W))) (SOp.e (se_call (dvs := []) (ds := []) C.tk (ok_22 T) (R.mono (by decide)) (gl_ok C.toCn g__law_take) T.m22 T.f22.kp (bind_22 T.f22) .nil (fun _ _ => .nil) (sa_consL (pv_ok C.toCn h3) (sa_consT (se_int (g := g0 X.K) (W := W)) sa_nil rfl) rfl) (by decide) rfl rfl))) (by decide) rfl)
  (sss_cons (ss_setC C (by decide +kernel) (se_call (dvs := []) (ds := []) C.tk (ok_28 T) (R.mono (by decide)) (gl_ok C.toCn g__law_ring) T.m28 T.f28.kp (bind_28 T.f28) .nil (fun _ _ => .nil) (sa_consT (se_lst (g := g0 X.K) (W := W) (sa_consT (se_tup (g := g0 X.K) (W := W) (sa_consT (se_call (dvs := []) (ds := []) C.tk (ok_22 T) (R.mono (by decide)) (gl_ok C.toCn g__law_take) T.m22 T.f22.kp (bind_22 T.f22) .nil (fun _ _ => .nil) (sa_consL (pv_ok C.toCn h3) (sa_consT (se_int (g := g0 X.K) (W := W)) sa_nil rfl) rfl) (by decide) rfl rfl) (sa_consT (se_int (g := g0 X.K) (W := W)) (sa_consT (se_call (dvs := []) (ds := []) C.tk (ok_27 T) (R.mono (by decide)) (gl_ok C.toCn g__law_marks) T.m27 T.f27.kp (bind_27 T.f27) .nil (fun _ _ => .nil) (sa_consL (pv_ok C.toCn h3) (sa_consT (se_v C.toCn h4) sa_nil rfl) rfl) (by decide) rfl rfl) sa_nil rfl) rfl) rfl)) sa_nil rfl)) sa_nil rfl) (by decide) rfl rfl) (by decide) rfl)
  (sss_cons (ss_if (st_not (st_tru (SOp.e (se_call (dvs := []) (ds := []) C.tk (ok_33 T) (R.mono (by decide)) (gl_ok C.toCn g__law_right) T.m33 T.f33.kp (bind_33 T.f33) .nil (fun _ _ => .nil) (sa_consL (pv_ok C.toCn h3) (sa_consT (se_v C.toCn h5) (sa_consT (se_v C.toCn h4) sa_nil rfl) rfl) rfl) (by decide) rfl rfl)) (fun _ => rfl))) (sss_cons (ss_ret (se_bl (g := g0 X.K) (W := W)))
  sss_nil) sss_nil)
  (sss_cons (ss_if (st_not (st_tru (SOp.e (se_call (dvs := []) (ds := []) C.tk (ok_33 T) (R.mono (by decide)) (gl_ok C.toCn g__law_right) T.m33 T.f33.kp (bind_33 T.f33) .nil (fun _ _ => .nil) (sa_consL (pv_ok C.toCn h3) (sa_consT (se_tup (g := g0 X.K) (W := W) (sa_consT (se_v C.toCn h1) (sa_consT (se_v C.toCn h1) (sa_consT (se_tup (g := g0 X.K) (W := W) (sa_consT (se_tup (g := g0 X.K) (W := W) (sa_consT (se_non (g := g0 X.K) (W := W)) (sa_consT (se_non (g := g0 X.K) (W := W)) sa_nil rfl) rfl)) sa_nil rfl)) sa_nil rfl) rfl) rfl)) (sa_consT (se_int (g := g0 X.K) (W := W)) sa_nil rfl) rfl) rfl) (by decide) rfl rfl)) (fun _ => rfl))) (sss_cons (ss_ret (se_bl (g := g0 X.K) (W := W)))
  sss_nil) sss_nil)
  sss_nil))))) (fun _ => rfl))
  (sss_cons (ss_ret (se_bl (g := g0 X.K) (W := W)))
  sss_nil)))
theorem ok_34 {P : Program} {w : World} {K : PySem.W.Frag} {mg : Str → Option Value} {base : Heap} {fd : Nat → FuncData} (T : Dn P w K mg fd) : FnOk P w K mg base (L2.CX P w) 42 (He.fAd K d34.at_) (fd 34) ["script"] (Prom ⟨g0 K, K⟩ mask_34 c_34) :=
  fn_okC T.f34 S34 rfl (by decide) T.fr fun X W e1 e2 e3 e4 e5 R C => by
    subst e1 e2 e3 e4 e5
    exact b_34 C R T
end LW

namespace LW
open PySem PySem.Spec L2 EV
def isint : D → Bool
  | .int _ => true
  | _ => false
theorem fz_lst {o : Bool} {xs : List D} (h : fz (.lst o xs) = true) : o = false ∧ fzs xs = true := by
  cases o with
  | true => cases h
  | false => exact ⟨rfl, h⟩
theorem isint_ok {d : D} (h : okV d = true) (hz : fz d = true) : c_8 [d] = .ok (.bl (isint d)) [] := by
  unfold c_8 callF m_8
  cases d with
  | tup xs => have hz2 : fzs xs = true := hz; simp [isint, hz2]
  | lst o xs =>
    obtain ⟨rfl, hz2⟩ := fz_lst hz
    simp [isint, hz2]
  | _ => simp [okV] at h <;> simp [isint]
def isnum (lo : Int) : D → Bool
  | .int i => decide (lo ≤ i)
  | _ => false
theorem isnum_ok {d : D} {lo : Int} (h : okV d = true) (hz : fz d = true) : c_9 [d, .int lo, .non] = .ok (.bl (isnum lo d)) [] := by
  have h1 := isint_ok h hz
  unfold c_9 callF m_9
  cases d with
  | tup xs => have hz2 : fzs xs = true := hz; simp [isnum, isint, hz2] at h1 ⊢; simp [h1]
  | lst o xs =>
    obtain ⟨rfl, hz2⟩ := fz_lst hz
    simp [isnum, isint, hz2] at h1 ⊢; simp [h1]
  | int i =>
    simp [isnum, isint] at h1 ⊢
    by_cases hl : lo ≤ i <;> simp [h1, hl]
  | _ => simp [okV] at h <;> (simp [isnum, isint] at h1 ⊢; simp [h1])
def istup (n : Int) : D → Bool
  | .tup xs => (xs.length : Int) == n
  | _ => false
theorem istup_ok {d : D} {n : Int} (h : okV d = true) (hz : fz d = true) : c_10 [d, .int n] = .ok (.bl (istup n d)) [] := by
  unfold c_10 callF m_10
  cases d with
  | tup xs => have hz2 : fzs xs = true := hz; simp [istup, hz2]
  | lst o xs =>
    obtain ⟨rfl, hz2⟩ := fz_lst hz
    simp [istup, hz2]
  | _ => simp [okV] at h <;> simp [istup]
end LW

namespace LW
open PySem PySem.Spec L2 EV
theorem gstep {x y : Nat} (h : 0 < y) (hxy : y < x) : 2 * (y * (x % y)) < x * y := by
  have h1 : x % y < y := Nat.mod_lt _ h
  have h2 : y * (x / y) + x % y = x := Nat.div_add_mod x y
  have h3 : 1 ≤ x / y := Nat.div_pos (Nat.le_of_lt hxy) h
  have h4 : y * 1 ≤ y * (x / y) := Nat.mul_le_mul_left y h3
  have h5 : 2 * (x % y) < x := by omega
  calc 2 * (y * (x % y)) = (2 * (x % y)) * y := by rw [Nat.mul_comm y, Nat.mul_assoc]
    _ < x * y := Nat.mul_lt_mul_of_pos_right h5 h
theorem abs_nat {a : Int} : (if a < 0 then -a else a) = (a.natAbs : Int) := by
  split <;> omega
/-- Euclid's state: how many turns are left at most -/
def GI2 (g : Nat) (μ : Nat) (x y : Nat) : Prop := Nat.gcd x y = g ∧ ((y < x ∧ x * y < 2 ^ μ) ∨ (μ = 1000 ∧ y * y < 2 ^ 999))
theorem gi_next {g μ x y : Nat} (h : GI2 g μ x y) (hy : 0 < y) : ∃ μ', μ' < μ ∧ GI2 g μ' y (x % y) := by
  obtain ⟨h1, h2⟩ := h
  have hr : x % y < y := Nat.mod_lt _ hy
  have hg : Nat.gcd y (x % y) = g := by
    rw [← h1, Nat.gcd_comm x y, Nat.gcd_rec y x, Nat.gcd_comm]
  rcases h2 with ⟨h2, h3⟩ | ⟨rfl, h3⟩
  · have h4 := gstep hy h2
    cases μ with
    | zero =>
      have : 0 < x * y := Nat.mul_pos (by omega) hy
      simp at h3
      omega
    | succ μ =>
      refine ⟨μ, Nat.lt_succ_self _, hg, .inl ⟨hr, ?_⟩⟩
      have : 2 ^ (μ + 1) = 2 * 2 ^ μ := by rw [Nat.pow_succ, Nat.mul_comm]
      omega
  · refine ⟨999, by omega, hg, .inl ⟨hr, ?_⟩⟩
    exact Nat.lt_of_le_of_lt (Nat.mul_le_mul_left y (Nat.le_of_lt hr)) h3
theorem gi_start {x y : Nat} (h : y < 2 ^ 400) : GI2 (Nat.gcd x y) 1000 x y := by
  refine ⟨rfl, .inr ⟨rfl, ?_⟩⟩
  have h1 : y * y < 2 ^ 400 * 2 ^ 400 := Nat.mul_lt_mul'' h h
  rw [← Nat.pow_add] at h1
  exact Nat.lt_trans h1 (Nat.pow_lt_pow_right (by omega) (by omega))
theorem gi_end {g μ x : Nat} (h : GI2 g μ x 0) : x = g := by
  have := h.1
  rw [Nat.gcd_zero_right] at this
  exact this
theorem whl {t : ME} {m : MS} (g : Nat)
    (ht : ∀ x y : Nat, t [some (.int x), some (.int y)] = .ok (.bl (decide (0 < y))) [some (.int x), some (.int y)])
    (hm : ∀ x y : Nat, 0 < y → m [some (.int x), some (.int y)] = .nx [some (.int y), some (.int (x % y : Nat))]) {x y : Nat} (h : GI2 g 1000 x y) :
    whileN t m FUEL [some (.int x), some (.int y)] = .nx [some (.int g), some (.int 0)] := by
  refine whileN_rule (t := t) (m := m) (fun r => r = .nx [some (.int g), some (.int 0)]) (fun μ e => ∃ x y : Nat, e = [some (.int x), some (.int y)] ∧ GI2 g μ x y) ?_ FUEL 1000 _ ⟨x, y, rfl, h⟩ (by rw [FUEL_eq]; omega)
  rintro μ e ⟨x, y, rfl, hi⟩
  rw [ht, stB_ok]
  by_cases hy : 0 < y
  · rw [if_pos (by simpa using hy), hm x y hy]
    obtain ⟨μ', h1, h2⟩ := gi_next hi hy
    exact ⟨μ', h1, y, x % y, rfl, h2⟩
  · have : y = 0 := by omega
    subst this
    rw [if_neg (by simp), gi_end hi]
    rfl
theorem gcd_ok {a b : Int} (hb : b.natAbs < 2 ^ 400) : c_12 [.int a, .int b] = .ok (.int (Nat.gcd a.natAbs b.natAbs : Nat)) [] := by
  have hw := whl (t := t_12_1) (m := s_12_2) (Nat.gcd a.natAbs b.natAbs) (fun x y => ?_) (fun x y hy => ?_) (gi_start hb)
  · unfold c_12 callF m_12
    simp [abs_nat, hw]
  · unfold t_12_1
    simp
  · unfold s_12_2
    have h : (0 : Int) < (y : Int) := by omega
    simp [md_int h]
theorem lgcd_ok {a b : Int} (hb : b.natAbs < 2 ^ 400) : c_25 [.int a, .int b] = .ok (.int (Nat.gcd a.natAbs b.natAbs : Nat)) [] := by
  have hw := whl (t := t_25_1) (m := s_25_2) (Nat.gcd a.natAbs b.natAbs) (fun x y => ?_) (fun x y hy => ?_) (gi_start hb)
  · unfold c_25 callF m_25
    simp [abs_nat, hw]
  · unfold t_25_1
    simp
    by_cases h : 0 < y
    · simp [h]; omega
    · have : y = 0 := by omega
      subst this; rfl
  · unfold s_25_2
    have h : (0 : Int) < (y : Int) := by omega
    simp [md_int h]
end LW

set_option exponentiation.threshold 2000
namespace LW
open PySem PySem.Spec L2 EV
def smallI : D → Bool
  | .int m => decide (m.natAbs.log2 < 400)
  | _ => true
def okP : D → Bool
  | .tup [x, y] => okV x && (okV y && smallI y)
  | _ => true
/-- entries that the check can look at -/
def okE (d : D) : Bool := okV d && (fz d && okP d)
/-- a right fraction -/
def good : D → Bool
  | .tup [.int n, .int m] => decide (1 ≤ m) && decide (Nat.gcd n.natAbs m.natAbs = 1)
  | _ => false
def nn : D → Bool
  | .tup (.int n :: _) => decide (0 ≤ n)
  | _ => false
def least (d : D) : Bool := good d && nn d
theorem ne_intB {a b : Int} : neD (.int a) (.int b) = some (.bl (a != b)) := rfl
theorem fzs_two {x y : D} (h : fzs [x, y] = true) : fz x = true ∧ fz y = true := by
  have h : (fz x && (fz y && true)) = true := h
  rw [Bool.and_eq_true, Bool.and_eq_true] at h
  exact ⟨h.1, h.2.1⟩
theorem lt_of_log2 {n : Nat} (h : n.log2 < 400) : n < 2 ^ 400 := by
  by_cases hn : n = 0
  · subst hn; exact Nat.pow_pos (by omega)
  · exact (Nat.log2_lt hn).mp h
theorem at0 {d : D} {ds : List D} : atI (d :: ds) 0 = some d := by simp [atI, ixN]
theorem at1 {d d1 : D} {ds : List D} : atI (d :: d1 :: ds) 1 = some d1 := by
  have : (1 : Int) < (ds.length : Int) + 1 + 1 := by omega
  simp [atI, ixN, this]
theorem at2 {d d1 d2 : D} {ds : List D} : atI (d :: d1 :: d2 :: ds) 2 = some d2 := by
  have : (2 : Int) < (ds.length : Int) + 1 + 1 + 1 := by omega
  simp [atI, ixN, this]
theorem ng_int {a : Int} : negD (.int a) = some (.int (-a)) := rfl
theorem chk_two {x y : D} (hz : fzs [x, y] = true) (hx : okV x = true) (hy : okV y = true) (hs : smallI y = true) :
    (good (.tup [x, y]) = true ∧ c_13 [.tup [x, y]] = .ok (.tup [x, y]) []) ∨ (good (.tup [x, y]) = false ∧ ∃ k, c_13 [.tup [x, y]] = .ex 1 (.int k) []) := by
  obtain ⟨zx, zy⟩ := fzs_two hz
  have ht := istup_ok (d := .tup [x, y]) (n := 2) rfl hz
  have hi : istup 2 (.tup [x, y]) = true := rfl
  rw [hi] at ht
  have fx := frz_of _ zx
  have fy := frz_of _ zy
  have h0 := isint_ok hx zx
  have h1 := isnum_ok (lo := 1) hy zy
  by_cases e0 : isint x = true
  · cases x with
    | int n =>
      by_cases e1 : isnum 1 y = true
      · cases y with
        | int m =>
          have hm : 1 ≤ m := by simpa [isnum] using e1
          have hg := gcd_ok (a := n) (b := m) (lt_of_log2 (by simpa [smallI] using hs))
          rw [e1] at h1
          by_cases e2 : Nat.gcd n.natAbs m.natAbs = 1
          · refine .inl ⟨by simp [good, hm, e2], ?_⟩
            rw [e2] at hg
            unfold c_13 callF m_13
            simp [hz, ht, at0, at1, h0, h1, hg, isint, ne_intB]
          · refine .inr ⟨by simp [good, e2], 2, ?_⟩
            have e3 : (((Nat.gcd n.natAbs m.natAbs : Nat) : Int) == 1) = false := by
              rw [beq_eq_false_iff_ne]
              omega
            unfold c_13 callF m_13
            simp [hz, ht, at0, at1, h0, h1, hg, isint, ne_intB, e3]
        | _ => cases e1
      · refine .inr ⟨?_, 1, ?_⟩
        · cases y with
          | int m =>
            have : ¬ 1 ≤ m := by simpa [isnum] using e1
            simp [good, this]
          | _ => rfl
        · have e1 : isnum 1 y = false := by simpa using e1
          rw [e1] at h1
          unfold c_13 callF m_13
          simp [hz, ht, at0, at1, h0, h1, isint, fy, zy]
    | _ => cases e0
  · refine .inr ⟨?_, 0, ?_⟩
    · cases x with
      | int n => exact absurd rfl e0
      | _ => rfl
    · have e0 : isint x = false := by simpa using e0
      rw [e0] at h0
      unfold c_13 callF m_13
      simp [hz, ht, at0, at1, h0, fx, zx]
theorem chk_ok {d : D} (h : okE d = true) : (good d = true ∧ c_13 [d] = .ok d []) ∨ (good d = false ∧ ∃ k, c_13 [d] = .ex 1 (.int k) []) := by
  unfold okE at h
  rw [Bool.and_eq_true, Bool.and_eq_true] at h
  obtain ⟨hv, hz, h⟩ := h
  have ht := istup_ok (n := 2) hv hz
  by_cases h2 : istup 2 d = true
  · cases d with
    | tup xs =>
      match xs, h2, h, hz with
      | [x, y], _, h, hz =>
        have h : (okV x && (okV y && smallI y)) = true := h
        rw [Bool.and_eq_true, Bool.and_eq_true] at h
        exact chk_two hz h.1 h.2.1 h.2.2
      | [], h2, _, _ => cases h2
      | [_], h2, _, _ => cases h2
      | _ :: _ :: _ :: ys, h2, _, _ =>
        have : ((ys.length + 1 + 1 + 1 : Nat) : Int) = 2 := by simpa [istup] using h2
        omega
    | _ => cases h2
  · have h2 : istup 2 d = false := by simpa using h2
    rw [h2] at ht
    have hf := frz_of _ hz
    refine .inr ⟨?_, -1, ?_⟩
    · cases d with
      | tup xs =>
        match xs, h2 with
        | [x, y], h2 => cases h2
        | [], _ => rfl
        | [x], _ => cases x <;> rfl
        | x :: y :: _ :: _, _ => cases x <;> cases y <;> rfl
      | _ => rfl
    · unfold c_13 callF m_13
      simp [hz, ht, hf, ng_int]
theorem frac_ok {d : D} (h : okE d = true) : c_14 [d] = .ok (.bl (least d)) [] := by
  have h0 := h
  unfold okE at h
  rw [Bool.and_eq_true, Bool.and_eq_true] at h
  obtain ⟨hv, hz, h⟩ := h
  rcases chk_ok h0 with ⟨g, hc⟩ | ⟨g, k, hc⟩
  · match d, g, hz, hc with
    | .tup [.int n, .int m], g, hz, hc =>
      unfold c_14 callF m_14
      have hl : least (.tup [.int n, .int m]) = decide (0 ≤ n) := by
        unfold least
        rw [g]
        rfl
      rw [hl]
      simp [hz, hc, at0]
  · have hl : least d = false := by
      unfold least
      rw [g]
      rfl
    rw [hl]
    unfold c_14 callF m_14
    simp [hz, hc, cg_1]
end LW

namespace LW
open PySem PySem.Spec L2 EV
def bad (L : Int) (i : Int) (x : D) : Bool := !least x && (!(isN x) || decide (i < L - 1))
theorem okE_v {x : D} (h : okE x = true) : okV x = true ∧ fz x = true := by
  unfold okE at h
  rw [Bool.and_eq_true, Bool.and_eq_true] at h
  exact ⟨h.1, h.2.1⟩
theorem isN_vw {x : D} (h : okV x = true) (hz : fz x = true) : vwOk x = true ∧ isN (vw x) = isN x := by
  cases x with
  | lst o xs => obtain ⟨rfl, h2⟩ := fz_lst hz; exact ⟨by simp [h2], by simp⟩
  | tup xs => have h2 : fzs xs = true := hz; exact ⟨by simp [h2], by simp⟩
  | dk o kvs => cases h
  | dt o kvs => cases h
  | _ => first | exact ⟨by simp, by simp⟩ | cases h
theorem s19 {m v x : D} {L i : Int} (h : okE x = true) : s_19_1 [some m, some v, some (.int L), some (.int i), some x] =
    if bad L i x = true then .ex 4 (.int i) [some m, some v, some (.int L), some (.int i), some x] else .nx [some m, some v, some (.int L), some (.int i), some x] := by
  obtain ⟨hv, hz⟩ := okE_v h
  have hf := frac_ok h
  obtain ⟨v1, v2⟩ := isN_vw hv hz
  unfold s_19_1 bad
  cases hl : least x with
  | true =>
    rw [hl] at hf
    simp [hz, hf]
  | false =>
    rw [hl] at hf
    cases hn : isN x with
    | false =>
      rw [hn] at v2
      simp [hz, hf, v1, v2]
    | true =>
      rw [hn] at v2
      by_cases hi : i < L - 1
      · simp [hz, hf, v1, v2, hi]
      · simp [hz, hf, v1, v2, hi]
theorem loop_ok {m v : D} {L : Int} : ∀ (xs : List D) (k : Nat) (y3 y4 : Option D), (∀ x ∈ xs, okE x = true) → (∀ i x, xs[i]? = some x → bad L ((k + i : Nat) : Nat) x = false) →
    ∃ y3' y4', forL (.t [.v 3, .v 4]) s_19_1 (numD k xs) [some m, some v, some (.int L), y3, y4] = .nx [some m, some v, some (.int L), y3', y4']
  | [], k, y3, y4, _, _ => ⟨y3, y4, rfl⟩
  | x :: xs, k, y3, y4, h, hb => by
    have hx := h x (List.mem_cons_self ..)
    have hb0 : bad L (k : Nat) x = false := hb 0 x rfl
    obtain ⟨z3, z4, ih⟩ := loop_ok (m := m) (v := v) (L := L) xs (k + 1) (some (.int (k : Nat))) (some x) (fun y hy => h y (List.mem_cons_of_mem _ hy)) fun i y hi => by
      have := hb (i + 1) y hi
      rw [show k + 1 + i = k + (i + 1) from by omega]; exact this
    refine ⟨z3, z4, ?_⟩
    unfold numD forL
    simp [s19 hx, hb0, ih]
theorem loop_bad {m v : D} {L : Int} : ∀ (xs : List D) (k i : Nat) (x : D) (y3 y4 : Option D), (∀ x ∈ xs, okE x = true) → xs[i]? = some x → bad L ((k + i : Nat) : Nat) x = true → (∀ j y, j < i → xs[j]? = some y → bad L ((k + j : Nat) : Nat) y = false) →
    ∃ y3' y4', forL (.t [.v 3, .v 4]) s_19_1 (numD k xs) [some m, some v, some (.int L), y3, y4] = .ex 4 (.int ((k + i : Nat) : Nat)) [some m, some v, some (.int L), y3', y4']
  | [], k, i, x, y3, y4, _, hi, _, _ => by cases hi
  | x0 :: xs, k, 0, x, y3, y4, h, hi, hb, _ => by
    injection hi with hi
    subst hi
    have hx := h x0 (List.mem_cons_self ..)
    have hb0 : bad L (k : Nat) x0 = true := hb
    refine ⟨some (.int (k : Nat)), some x0, ?_⟩
    unfold numD forL
    simp [s19 hx, hb0]
  | x0 :: xs, k, i + 1, x, y3, y4, h, hi, hb, hj => by
    have hx := h x0 (List.mem_cons_self ..)
    have hb0 : bad L (k : Nat) x0 = false := hj 0 x0 (by omega) rfl
    obtain ⟨z3, z4, ih⟩ := loop_bad (m := m) (v := v) (L := L) xs (k + 1) i x (some (.int (k : Nat))) (some x0) (fun y hy => h y (List.mem_cons_of_mem _ hy)) hi (by rw [show k + 1 + i = k + (i + 1) from by omega]; exact hb) fun j y hjl hy => by
      have := hj (j + 1) y (by omega) hy
      rw [show k + 1 + j = k + (j + 1) from by omega]; exact this
    refine ⟨z3, z4, ?_⟩
    rw [show k + (i + 1) = k + 1 + i from by omega]
    unfold numD forL
    simp [s19 hx, hb0, ih]
/-- marked: so many advisers -/
def MK (m : D) (many : Nat) : Prop := fz m = true ∧ c_17 [m] = .ok (.int (many : Nat)) []
theorem cp_not {m v : D} {many : Nat} (hm : MK m many) (hv : okV v = true) (hz : fz v = true) (ht : istup ((many : Int) + 3) v = false) : c_19 [m, v] = .ex 4 (.int (-1)) [] := by
  have h := istup_ok (n := (many : Int) + 3) hv hz
  rw [ht] at h
  unfold c_19 callF m_19
  simp [hm.1, hm.2, hz, h, ng_int]
theorem cp_ok {m : D} {xs : List D} {many : Nat} (hm : MK m many) (hz : fzs xs = true) (hl : xs.length = many + 3) (ho : ∀ x ∈ xs, okE x = true) (hb : ∀ i x, xs[i]? = some x → bad ((many : Int) + 3) ((0 + i : Nat) : Nat) x = false) : c_19 [m, .tup xs] = .ok (.tup xs) [] := by
  have h := istup_ok (d := .tup xs) (n := (many : Int) + 3) rfl hz
  have ht : istup ((many : Int) + 3) (.tup xs) = true := by simp [istup, hl]
  rw [ht] at h
  obtain ⟨z3, z4, hloop⟩ := loop_ok (m := m) (v := .tup xs) (L := (many : Int) + 3) xs 0 none none ho hb
  have hf := frzs_of _ hz
  unfold c_19 callF m_19
  simp [hm.1, hm.2, hz, h, hf, hloop]
theorem cp_bad {m : D} {xs : List D} {many i : Nat} {x : D} (hm : MK m many) (hz : fzs xs = true) (hl : xs.length = many + 3) (ho : ∀ x ∈ xs, okE x = true) (hi : xs[i]? = some x) (hb : bad ((many : Int) + 3) ((0 + i : Nat) : Nat) x = true)
    (hj : ∀ j y, j < i → xs[j]? = some y → bad ((many : Int) + 3) ((0 + j : Nat) : Nat) y = false) : c_19 [m, .tup xs] = .ex 4 (.int (i : Nat)) [] := by
  have h := istup_ok (d := .tup xs) (n := (many : Int) + 3) rfl hz
  have ht : istup ((many : Int) + 3) (.tup xs) = true := by simp [istup, hl]
  rw [ht] at h
  obtain ⟨z3, z4, hloop⟩ := loop_bad (m := m) (v := .tup xs) (L := (many : Int) + 3) xs 0 i x none none ho hi hb hj
  rw [Nat.zero_add] at hloop
  have hf := frzs_of _ hz
  unfold c_19 callF m_19
  simp [hm.1, hm.2, hz, h, hf, hloop]
end LW

set_option exponentiation.threshold 2000
namespace LW
open PySem PySem.Spec L2 EV
theorem tl_ok {m v : D} {b : Bool} (hm : fz m = true) (hv : fz v = true) (h : c_19 [m, v] = .ok v []) : c_32 [m, v, .bl b] = .ok (.tup [.str "told", v]) [] := by
  unfold c_32 callF m_32
  cases b <;> simp [hm, hv, h, genL, frz_of _ hm, frz_of _ hv]
theorem tl_ex {m v : D} {b : Bool} {k : Int} (hm : fz m = true) (hv : fz v = true) (h : c_19 [m, v] = .ex 4 (.int k) []) : c_32 [m, v, .bl b] = .ok (.tup [.str "refused", .int k]) [] := by
  unfold c_32 callF m_32
  cases b <;> simp [hm, hv, h, genL, frz_of _ hm, frz_of _ hv, cg_0]
abbrev bx (a b : Int) : D := .lst true [.int a, .int b]
theorem divOk_b {b : Int} (h0 : 0 < b) (h : b.natAbs < 2 ^ 400) : divOk b = true := by
  unfold divOk
  rw [Bool.or_eq_true]
  right
  rw [decide_eq_true_eq]
  have h2 : b.natAbs ≠ 0 := by omega
  have := (Nat.log2_lt h2).mpr h
  omega
theorem take_ok (a b m : Int) (hm : 0 < m) (hs : m.natAbs < 2 ^ 400) : ∃ r a' b', 0 ≤ r ∧ r < m ∧ c_22 [bx a b, .int m] = .ok (.int r) [bx a' b'] := by
  unfold c_22 callF m_22
  by_cases h : 0 < a
  · refine ⟨a % m, a / m, b, Int.emod_nonneg _ (by omega), Int.emod_lt_of_pos _ hm, ?_⟩
    simp [h, atI, ixN, md_int hm, div_int hm (divOk_b hm hs)]
  · refine ⟨((b * 39373 + 163) % 2147483647 * 2147483629 + ((((b * 39373 + 163) % 2147483647) * 40692 + 67) % 2147483563 + 1)) / 8233 % m, a, (((b * 39373 + 163) % 2147483647) * 40692 + 67) % 2147483563 + 1, Int.emod_nonneg _ (by omega), Int.emod_lt_of_pos _ hm, ?_⟩
    simp [h, atI, ixN, mul_int (mulOk_r (a := b) (b := 39373) (by decide)), md_int (b := 2147483647) (by decide), mul_int (mulOk_r (b := 40692) (by decide)), md_int (b := 2147483563) (by decide), mul_int (mulOk_r (b := 2147483629) (by decide)),
        div_int (b := 8233) (by decide) (by decide), md_int hm]
theorem take_s (a b m : Int) (hm : 0 < m) (hs : m < 1000000) : ∃ r a' b', 0 ≤ r ∧ r < m ∧ c_22 [bx a b, .int m] = .ok (.int r) [bx a' b'] := by
  refine take_ok a b m hm (Nat.lt_trans (m := 2 ^ 20) (by omega) (Nat.pow_lt_pow_right (by omega) (by omega)))
theorem atI_nat {ds : List D} {r : Int} (h0 : 0 ≤ r) (h1 : r < ds.length) : atI ds r = ds[r.toNat]? := by
  simp [atI, ixN, h0, h1]
theorem pick_ok (a b : Int) (o : Bool) (ds : List D) (h0 : ds ≠ []) (hl : ds.length < 1000000) (hz : fzs ds = true) : ∃ x a' b', x ∈ ds ∧ c_23 [bx a b, .lst o ds] = .ok x [bx a' b'] := by
  have hp : 0 < ds.length := List.length_pos_iff.mpr h0
  obtain ⟨r, a', b', h1, h2, h3⟩ := take_s a b ds.length (by omega) (by omega)
  have h4 : r.toNat < ds.length := by omega
  refine ⟨ds[r.toNat], a', b', List.getElem_mem h4, ?_⟩
  unfold c_23 callF m_23
  simp [h3, hz, atI_nat h1 h2, h4]
/-- nested tuples of None, ints, short texts -/
def plS : Nat → D → Bool
  | _, .non => true
  | _, .int _ => true
  | _, .str s => PyData.strOk s
  | n + 1, .tup ds => ds.all (plS n)
  | _, _ => false
theorem plS_fz : ∀ (n : Nat) {d : D}, plS n d = true → fz d = true
  | n, .non, _ => rfl
  | n, .int _, _ => rfl
  | n, .str _, _ => rfl
  | 0, .tup ds, h => by simp [plS] at h
  | n + 1, .tup ds, h => by
    have h : ds.all (plS n) = true := h
    show fzs ds = true
    rw [fzs_all, List.all_eq_true]
    exact fun d hd => plS_fz n (List.all_eq_true.mp h d hd)
  | 0, .bl _, h => by simp [plS] at h
  | 0, .lst _ _, h => by simp [plS] at h
  | 0, .scr _, h => by simp [plS] at h
  | 0, .dk _ _, h => by simp [plS] at h
  | 0, .dt _ _, h => by simp [plS] at h
  | 0, .fn _, h => by simp [plS] at h
  | n + 1, .bl _, h => by simp [plS] at h
  | n + 1, .lst _ _, h => by simp [plS] at h
  | n + 1, .scr _, h => by simp [plS] at h
  | n + 1, .dk _ _, h => by simp [plS] at h
  | n + 1, .dt _ _, h => by simp [plS] at h
  | n + 1, .fn _, h => by simp [plS] at h
theorem eq_strs {s : Str} (h : PyData.strOk s = true) : eqD (.str s) (.str s) = some (.bl true) := by
  unfold eqD
  simp [eqOk, h, eqvD]
theorem same_ok : ∀ (n : Nat) (d : D), plS n d = true → c_24 (n + 1) [d, d] = .ok (.bl true) [] := by
  intro n
  induction n with
  | zero =>
    intro d h
    cases d with
    | str s =>
      have hs : PyData.strOk s = true := h
      unfold c_24 callF m_24; simp [eq_strs hs]
    | _ => simp [plS] at h <;> (unfold c_24 callF m_24; simp)
  | succ n ih =>
    intro d h
    cases d with
    | non => unfold c_24 callF m_24; simp
    | int i => unfold c_24 callF m_24; simp
    | str s =>
      have hs : PyData.strOk s = true := h
      unfold c_24 callF m_24; simp [eq_strs hs]
    | tup ds =>
      have hz := plS_fz _ h
      have hz2 : fzs ds = true := hz
      have hf : frzs ds = ds := by have := frz_of _ hz; simpa using this
      have h : ds.all (plS n) = true := h
      have loop : ∀ e : DEnv, e.length = 4 → ∃ e', forL (.t [.v 2, .v 3]) (s_24_1 (c_24 (n + 1))) (ds.map fun a => D.tup [a, a]) e = .nx e' := by
        intro e he
        refine forL_rule (fun r => ∃ e', r = .nx e') (fun _ e => e.length = 4) he ?_ (fun e _ => ⟨e, rfl⟩)
        intro k d e hk hl
        rw [List.getElem?_map] at hk
        cases h1 : ds[k]? with
        | none => rw [h1] at hk; cases hk
        | some x =>
        rw [h1] at hk
        injection hk with hk
        subst hk
        obtain ⟨o0, o1, o2, o3, rfl⟩ := env4 hl
        have hx := List.all_eq_true.mp h x (List.mem_of_getElem? h1)
        unfold s_24_1
        simp [plS_fz _ hx, ih x hx]
      unfold c_24 callF m_24
      obtain ⟨e', he⟩ := loop [some (.tup ds), some (.tup ds), none, none] rfl
      simp [hz2, hf, he]
    | _ => simp [plS] at h
theorem pw18 : powD (.int 10) (.int 18) = some (.int 1000000000000000000) := rfl
theorem atI_in {α : Type} {xs : List α} {k : Int} (h0 : 0 ≤ k) (h1 : k < xs.length) : ∃ x, atI xs k = some x := by
  have h2 : k.toNat < xs.length := by omega
  exact ⟨xs[k.toNat], by simp [atI, ixN, h0, h1, h2]⟩
theorem box_ok (ns : List Int) (k : Int) (hk : 0 ≤ k) : ∃ a b, c_21 [.scr ns, .int k] = .ok (bx a b) [] := by
  unfold c_21 callF m_21
  have ms := mul_int (mulOk_l (a := 20011) (b := k) (by decide))
  have mt := mul_int (mulOk_l (a := 7417) (b := k) (by decide))
  by_cases h1 : k < (ns.length : Int)
  · obtain ⟨n, hn⟩ := atI_in hk h1
    by_cases h2 : 1000000000000000000 ≤ (if n < 0 then -n else n)
    all_goals simp [h1, hn, h2, pw18, ms, mt, mul_int (mulOk_r (b := 54250003) (by decide)), md_int (b := 2147483563) (by decide)]
  · by_cases h3 : 0 < ns.length
    · have hm := md_int (a := k) (b := (ns.length : Int)) (by omega)
      obtain ⟨n, hn⟩ := atI_in (xs := ns) (k := k % (ns.length : Int)) (Int.emod_nonneg _ (by omega)) (Int.emod_lt_of_pos _ (by omega))
      by_cases h2 : 1000000000000000000 ≤ 20011 * k + 7417 + (if n < 0 then -n else n) % 2147483563 * 88339
      all_goals simp [h1, hn, h2, h3, hm, pw18, ms, mt, mul_int (mulOk_r (b := 54250003) (by decide)), mul_int (mulOk_r (b := 88339) (by decide)), md_int (b := 2147483563) (by decide)]
    · by_cases h2 : 1000000000000000000 ≤ 20011 * k + 7417
      all_goals simp [h1, h2, h3, pw18, ms, mt, mul_int (mulOk_r (b := 54250003) (by decide)), md_int (b := 2147483563) (by decide)]
end LW

set_option exponentiation.threshold 2000
namespace LW
open PySem PySem.Spec L2 EV
theorem pw9 : powD (.int 10) (.int 9) = some (.int 1000000000) := rfl
def i40 : Int := 10 ^ 40
def i49 : Int := 10 ^ 49
def i50 : Int := 10 ^ 50
def i99 : Int := i50 * i49
theorem pw40 : powD (.int 10) (.int 40) = some (.int i40) := rfl
theorem pw49 : powD (.int 10) (.int 49) = some (.int i49) := rfl
theorem pw50 : powD (.int 10) (.int 50) = some (.int i50) := rfl
theorem ml99 : mulD (.int i50) (.int i49) = some (.int i99) := mul_int (by decide +kernel)
/-- a number that stands for many -/
def mid : D → Bool
  | .int m => decide (0 < m) && decide (m.natAbs < 2 ^ 360)
  | _ => false
/-- a right entry -/
def fr (n d : Nat) : D := .tup [.int (n : Nat), .int (d : Nat)]
def Fr (x : D) : Prop := ∃ n d : Nat, x = fr n d ∧ 1 ≤ d ∧ Nat.gcd n d = 1 ∧ d < 2 ^ 400
theorem Fr.le {x : D} (h : Fr x) : least x = true := by
  obtain ⟨n, d, rfl, h1, h2, h3⟩ := h
  have h4 : (1 : Int) ≤ (d : Nat) := by omega
  simp [least, good, nn, fr, h4, h2]
theorem Fr.ok {x : D} (h : Fr x) : okE x = true := by
  obtain ⟨n, d, rfl, h1, h2, h3⟩ := h
  have h5 : d ≠ 0 := by omega
  have h4 : d.log2 < 400 := (Nat.log2_lt h5).mpr h3
  show (true && (true && (true && (true && decide (((d : Nat) : Int).natAbs.log2 < 400))))) = true
  simp [h4]
theorem Fr.pl {x : D} (h : Fr x) : plS 1 x = true := by
  obtain ⟨n, d, rfl, _⟩ := h
  rfl
theorem low_ok {n d : Nat} (hd : 0 < d) (hs : d < 2 ^ 400) : ∃ x, Fr x ∧ c_26 [.int (n : Nat), .int (d : Nat)] = .ok x [] := by
  have hg := lgcd_ok (a := (n : Nat)) (b := (d : Nat)) (by simpa using hs)
  simp only [Int.natAbs_natCast] at hg
  have g0 : 0 < Nat.gcd n d := Nat.gcd_pos_of_pos_right n hd
  have g1 : Nat.gcd n d ≤ d := Nat.gcd_le_right n hd
  have gi : (0 : Int) < (Nat.gcd n d : Nat) := by omega
  have gd : divOk (Nat.gcd n d : Nat) = true := divOk_b gi (by simpa using Nat.lt_of_le_of_lt g1 hs)
  refine ⟨fr (n / Nat.gcd n d) (d / Nat.gcd n d), ⟨_, _, rfl, Nat.div_gcd_pos_of_pos_right n hd, Nat.gcd_div_gcd_div_gcd_of_pos_right hd, Nat.lt_of_le_of_lt (Nat.div_le_self _ _) hs⟩, ?_⟩
  unfold c_26 callF m_26 fr
  simp [hg, div_int gi gd]
theorem mids {ds : List D} (h : ds.all mid = true) {x : D} (hx : x ∈ ds) : ∃ m : Int, x = .int m ∧ 0 < m ∧ m.natAbs < 2 ^ 360 := by
  have := List.all_eq_true.mp h x hx
  cases x with
  | int m =>
    unfold mid at this
    rw [Bool.and_eq_true, decide_eq_true_eq, decide_eq_true_eq] at this
    exact ⟨m, rfl, this.1, this.2⟩
  | _ => cases this
theorem great_ok (a b : Int) : ∃ x a' b', Fr x ∧ c_30 [bx a b] = .ok x [bx a' b'] := by
  have z1 : [D.int 10, .int 100, .int 1000000000, .int i40, .int i99].all mid = true := by decide +kernel
  have z2 : [D.int 1, .int 10, .int 1000000000, .int i40, .int i99].all mid = true := by decide +kernel
  obtain ⟨x1, a1, b1, hx1, p1⟩ := pick_ok a b true _ (by simp) (by simp) (show fzs [D.int 10, .int 100, .int 1000000000, .int i40, .int i99] = true from rfl)
  obtain ⟨m1, rfl, hm1, hs1⟩ := mids z1 hx1
  have big : (2 : Nat) ^ 360 ≤ 2 ^ 400 := Nat.pow_le_pow_right (by omega) (by omega)
  obtain ⟨r1, a2, b2, r1a, r1b, t1⟩ := take_ok a1 b1 m1 hm1 (Nat.lt_of_lt_of_le hs1 big)
  obtain ⟨x2, a3, b3, hx2, p2⟩ := pick_ok a2 b2 true _ (by simp) (by simp) (show fzs [D.int 1, .int 10, .int 1000000000, .int i40, .int i99] = true from rfl)
  obtain ⟨m2, rfl, hm2, hs2⟩ := mids z2 hx2
  obtain ⟨r2, a4, b4, r2a, r2b, t2⟩ := take_ok a3 b3 m2 hm2 (Nat.lt_of_lt_of_le hs2 big)
  obtain ⟨n, rfl⟩ := Int.eq_ofNat_of_zero_le r1a
  obtain ⟨d, rfl⟩ := Int.eq_ofNat_of_zero_le r2a
  have hd : 1 + d < 2 ^ 400 := by
    have : d < 2 ^ 360 := by omega
    have : 1 + d < 2 ^ 361 := by rw [Nat.pow_succ]; omega
    exact Nat.lt_of_lt_of_le this (Nat.pow_le_pow_right (by omega) (by omega))
  obtain ⟨x, hx, hl⟩ := low_ok (n := n) (d := 1 + d) (by omega) hd
  refine ⟨x, a4, b4, hx, ?_⟩
  have e1 : ((1 + d : Nat) : Int) = 1 + (d : Nat) := by omega
  rw [e1] at hl
  unfold c_30 callF m_30
  simp [-List.all_cons, pw9, pw40, pw49, pw50, ml99, p1, t1, p2, t2, hl]
end LW

set_option exponentiation.threshold 2000
namespace LW
open PySem PySem.Spec L2 EV
def odds (n : Int) : List D := [.int n, .int 0, .str "1", .tup [], .tup [.int n], .tup [.int n, .int 1, .int 1], .lst false [.int n, .int 1], .tup [.int (-n), .int 1], .tup [.int n, .int 0], .tup [.int n, .int (-1)], .tup [.int (2 * n), .int 2], .tup [.int 0, .int 2], .tup [.bl true, .int 1],
  .tup [.int n, .bl true], .tup [.int n, .non], .tup [.str "1", .int 1], .tup [.tup [.int n, .int 1], .int 1], .bl true, .bl false, .tup [.int (6 * n), .int 4], .tup [.int 0, .int 0], .tup [.int 0, .int (-1)]]
def Od (x : D) : Prop := okE x = true ∧ least x = false ∧ isN x = false
theorem odds_ok {n : Int} (h1 : 1 ≤ n) (h2 : n ≤ 9) {x : D} (hx : x ∈ odds n) : Od x := by
  have h : (odds n).all (fun x => okE x && (!least x && !isN x)) = true := by
    have : n = 1 ∨ n = 2 ∨ n = 3 ∨ n = 4 ∨ n = 5 ∨ n = 6 ∨ n = 7 ∨ n = 8 ∨ n = 9 := by omega
    rcases this with rfl | rfl | rfl | rfl | rfl | rfl | rfl | rfl | rfl <;> decide +kernel
  have := List.all_eq_true.mp h x hx
  simpa [Od] using this
theorem odd_ok (a b : Int) : ∃ x a' b', Od x ∧ c_31 [bx a b] = .ok x [bx a' b'] := by
  obtain ⟨r, a1, b1, h1, h2, t1⟩ := take_s a b 9 (by omega) (by omega)
  obtain ⟨x, a2, b2, hx, p⟩ := pick_ok a1 b1 true (odds (1 + r)) (by simp [odds]) (by simp [odds]) rfl
  refine ⟨x, a2, b2, odds_ok (by omega) (by omega) hx, ?_⟩
  generalize hn : 1 + r = n at *
  unfold odds at p
  unfold c_31 callF m_31
  simp [t1, hn, p, mul_int (mulOk_l (a := 2) (b := n) (by decide)), mul_int (mulOk_l (a := 6) (b := n) (by decide))]
theorem frzs_app : ∀ {xs ys : List D}, frzs (xs ++ ys) = frzs xs ++ frzs ys
  | [], ys => rfl
  | x :: xs, ys => congrArg (frz x :: ·) (frzs_app (xs := xs) (ys := ys))
theorem set_ok {xs : List D} {k : Nat} {x : D} (hk : k < xs.length) (hl : xs.length < 1000) (hz : fzs xs = true) (hx : fz x = true) : c_29 [.tup xs, .int (k : Nat), x] = .ok (.tup (xs.set k x)) [] := by
  have h1 : cutD xs none (some (k : Nat)) = xs.take k := cut_to (by omega)
  have h2 : cutD xs (some ((k : Int) + 1)) none = xs.drop (k + 1) := by
    have e : ((k : Int) + 1) = ((k + 1 : Nat) : Int) := by omega
    rw [e]
    exact cut_from (by omega)
  have h3 : xs.set k x = xs.take k ++ x :: xs.drop (k + 1) := by
    rw [List.set_eq_take_append_cons_drop, if_pos hk]
  have l1 : (xs.take k).length ≤ 1000 := by rw [List.length_take]; omega
  have l2 : (xs.drop (k + 1)).length ≤ 1000 := by rw [List.length_drop]; omega
  have f0 := frzs_of _ hz
  have f1 := frz_of _ hx
  have hall := hz
  rw [fzs_all, List.all_eq_true] at hall
  have ft : frzs (xs.take k) = xs.take k := frzs_of _ (by rw [fzs_all, List.all_eq_true]; exact fun d hd => hall d (List.mem_of_mem_take hd))
  have fd : frzs (xs.drop (k + 1)) = xs.drop (k + 1) := frzs_of _ (by rw [fzs_all, List.all_eq_true]; exact fun d hd => hall d (List.mem_of_mem_drop hd))
  rw [h3]
  generalize xs.take k = T at *
  generalize xs.drop (k + 1) = U at *
  have l3 : T.length ≤ 999999 := by omega
  have l4 : T.length + 1 + U.length ≤ 1000000 := by omega
  have l5 : T.length + (U.length + 1) ≤ 1000000 := by omega
  unfold c_29 callF m_29
  simp [hz, hx, f0, f1, h1, h2, ft, fd, l3, l4, frzs_app]
end LW

set_option exponentiation.threshold 2000
namespace LW
open PySem PySem.Spec L2 EV
/-- a comprehension over a range that draws from the box -/
theorem lc_box {i n : Nat} {elt : ME} {E : Int → Int → DEnv} (P : D → Prop) (hn : n < 1000) (hs : ∀ a b k, k < n → ∃ y a' b' e3, P y ∧ elt ((E a b).set i (some (.int (k : Nat)))) = .ok y e3 ∧ e3.set i none = E a' b') (a b : Int) :
    ∃ (a' b' : Int) (acc : List D), acc.length = n ∧ (∀ d ∈ acc, P d) ∧ lcL [i] (.v i) mTrue elt (rangeD 0 n) [] (E a b) = .ok acc (E a' b') := by
  have H := lcL_rule (own := [i]) (tg := .v i) (cond := mTrue) (elt := elt) (ds := rangeD 0 n) (fun k acc e => ∃ a b, acc.length = k ∧ (∀ d ∈ acc, P d) ∧ e = E a b) (acc := []) (e := E a b) ⟨a, b, rfl, (fun d hd => nomatch hd), rfl⟩ (by
    rintro k d acc e hk ⟨a1, b1, hr, hp, rfl⟩
    have hk2 := (rg_get hk).2
    have hd' := (rg_get hk).1
    subst hd'
    clear hk
    have hl : acc.length < 1000000 := by rw [hr]; omega
    obtain ⟨y, a2, b2, e3, h1, h2, h3⟩ := hs a1 b1 k (by omega)
    simp only [put_v, stO_some, ap_true, stB_ok, if_true, Int.zero_add, h2, stE_ok, LIM_is, hl, true_and, wipe_cons, wipe_nil, h3]
    refine ⟨a2, b2, by simp [hr], fun d hd => ?_, rfl⟩
    rcases List.mem_append.mp hd with hd | hd
    · exact hp d hd
    · rw [List.mem_singleton.mp hd]; exact h1)
  obtain ⟨acc, e', h1, a', b', hr, hp, rfl⟩ := H
  exact ⟨a', b', acc, by rw [hr, rg_len]; omega, hp, h1⟩
theorem fz_lits {ds : List D} (h : ∀ d ∈ ds, ∃ i, d = .int i) : fzs ds = true := by
  rw [fzs_all, List.all_eq_true]
  intro d hd
  obtain ⟨i, rfl⟩ := h d hd
  rfl
theorem marks_ok (a b : Int) {n : Nat} (hn : n < 1000) : ∃ (ms : List D) (a' b' : Int), ms.length = n ∧ fzs ms = true ∧ c_27 [bx a b, .int (n : Nat)] = .ok (.tup ms) [bx a' b'] := by
  obtain ⟨a', b', acc, h1, h2, h3⟩ := lc_box (i := 2) (n := n) (elt := q_27_1) (E := fun a b => [some (bx a b), some (.int (n : Nat)), none]) (fun d => ∃ i, d = .int i) hn (by
    intro a b k hk
    obtain ⟨x, a2, b2, hx, p⟩ := pick_ok a b true [.int 0, .int 0, .int 0, .int 1, .int 1, .int 2] (by simp) (by simp) rfl
    have hi : ∃ i, x = .int i := by
      simp only [List.mem_cons, List.not_mem_nil, or_false] at hx
      rcases hx with rfl | rfl | rfl | rfl | rfl | rfl <;> exact ⟨_, rfl⟩
    obtain ⟨i, rfl⟩ := hi
    refine ⟨.int i, a2, b2, [some (bx a2 b2), some (.int (n : Nat)), some (.int (k : Nat))], ⟨i, rfl⟩, ?_, rfl⟩
    unfold q_27_1
    simp [p]) a b
  have hz := fz_lits h2
  have rg : rngOk (n : Nat) = true := rngOk_s (by omega) (by omega)
  refine ⟨acc, a', b', h1, hz, ?_⟩
  have hf := frzs_of _ hz
  have hll : acc.length ≤ 1000000 := by omega
  unfold c_27 callF m_27
  simp [rg, h3, hz, hf, tupleD, hll]
theorem ring_ok {t : Int} {ms : List D} (hz : fzs ms = true) : c_28 [.lst true [.tup [.int t, .int 1, .tup ms]]] = .ok (.tup [.tup [.tup [.tup [.int 0]], .tup [.tup [.int t]]], .tup [.tup [.tup [.int 0]], .tup [.tup [.int 1]]], .tup [.tup [.tup [.int 0, .tup ms, .int 0]]]]) [] := by
  have hf := frzs_of _ hz
  unfold c_28 callF m_28
  unfold q_28_1 q_28_2 q_28_3
  simp [lcL, numD, hz, hf, at0, at1, at2, tupleD]
theorem mk_ring {m0 m1 : D} {ms : List D} (hz : fzs ms = true) (h0 : fz m0 = true) (h1 : fz m1 = true) : MK (.tup [m0, m1, .tup [.tup [.tup [.int 0, .tup ms, .int 0]]]]) ms.length := by
  have hf := frzs_of _ hz
  have ht := istup_ok (d := .tup [.int 0, .tup ms, .int 0]) (n := 3) rfl (by show (true && (fzs ms && _)) = true; simp [hz])
  refine ⟨by simp [h0, h1, hz], ?_⟩
  have h16 : c_16 [.tup [.tup [.tup [.int 0, .tup ms, .int 0]]]] = .ok (.tup ms) [] := by
    unfold c_16 callF m_16
    unfold s_16_2 s_16_1
    simp [forL, hz, hf, at1, ht, istup]
  unfold c_17 callF m_17
  simp [h0, h1, hz, hf, at2, h16]
theorem mk_bare {m0 m1 : D} (h0 : fz m0 = true) (h1 : fz m1 = true) : MK (.tup [m0, m1, .tup [.tup [.non, .non]]]) 1 := by
  have ht := istup_ok (d := .non) (n := 3) rfl rfl
  refine ⟨by simp [h0, h1], ?_⟩
  have h16 : c_16 [.tup [.tup [.non, .non]]] = .ok .non [] := by
    unfold c_16 callF m_16
    unfold s_16_2 s_16_1
    simp [forL, ht, istup]
  unfold c_17 callF m_17
  simp [h0, h1, at2, h16]
end LW

set_option exponentiation.threshold 2000
namespace LW
open PySem PySem.Spec L2 EV
theorem Fr.plN {x : D} (h : Fr x) (n : Nat) : plS (n + 1) x = true := by
  obtain ⟨n1, d, rfl, _⟩ := h
  show (plS n (.int _) && (plS n (.int _) && true)) = true
  cases n <;> rfl
theorem Fr.fz {x : D} (h : Fr x) : EV.fz x = true := (okE_v h.ok).2
/-- entries of a price row: right ones, or None -/
def Ent (x : D) : Prop := Fr x ∨ x = .non
theorem Ent.ok {x : D} (h : Ent x) : okE x = true := by
  rcases h with h | rfl
  · exact h.ok
  · rfl
theorem Ent.pl {x : D} (h : Ent x) (n : Nat) : plS (n + 1) x = true := by
  rcases h with h | rfl
  · exact h.plN n
  · rfl
theorem ent_fz {xs : List D} (h : ∀ x ∈ xs, Ent x) : fzs xs = true := by
  rw [fzs_all, List.all_eq_true]
  exact fun d hd => (okE_v (h d hd).ok).2
theorem same_told {v : D} (h : plS 38 v = true) : c_24 40 [.tup [.str "told", v], .tup [.str "told", v]] = .ok (.bl true) [] := by
  refine same_ok 39 _ ?_
  show (PyData.strOk _ && (plS 38 v && true)) = true
  rw [h]
  decide +kernel
theorem same_ref {k : Int} : c_24 40 [.tup [.str "refused", .int k], .tup [.str "refused", .int k]] = .ok (.bl true) [] := by
  refine same_ok 39 _ ?_
  show (PyData.strOk _ && (true && true)) = true
  decide +kernel
abbrev rv (a b : Int) (m : D) (many : Nat) (P : List D) (nm : Bool) (x5 x6 x7 x8 x9 : Option D) : DEnv := [some (bx a b), some m, some (.int (many : Nat)), some (.tup P), some (.bl nm), x5, x6, x7, x8, x9]
section
variable {a b : Int} {m v : D} {many : Nat} {P : List D} {nm : Bool} {x5 x6 x7 x8 x9 : Option D}
theorem s3_ok (hm : MK m many) (hv : EV.fz v = true) (hp : plS 38 v = true) (hc : c_19 [m, v] = .ok v []) : s_33_3 (rv a b m many P nm (some v) x6 x7 x8 x9) = .nx (rv a b m many P nm (some v) x6 x7 x8 x9) := by
  have h1 := tl_ok (b := nm) hm.1 hv hc
  have h2 := same_told hp
  have f1 := frz_of _ hm.1
  have f2 := frz_of _ hv
  unfold s_33_3
  simp [hm.1, hv, h1, h2, f1, f2]
theorem s2_ok (hm : MK m many) (hv : EV.fz v = true) (hc : c_19 [m, v] = .ex 4 (.int (-1)) []) : s_33_2 (rv a b m many P nm (some v) x6 x7 x8 x9) = .nx (rv a b m many P nm (some v) x6 x7 x8 x9) := by
  have h1 := tl_ex (b := nm) hm.1 hv hc
  have h2 := same_ref (k := -1)
  have f1 := frz_of _ hm.1
  have f2 := frz_of _ hv
  unfold s_33_2
  simp [hm.1, hv, h1, h2, f1, f2]
end
theorem set_all {Q : D → Prop} {xs : List D} {k : Nat} {y : D} (h : ∀ x ∈ xs, Q x) (hy : Q y) : ∀ x ∈ xs.set k y, Q x := fun x hx => by
  rcases List.mem_or_eq_of_mem_set hx with h1 | h1
  · exact h x h1
  · rw [h1]; exact hy
theorem bad_od {L i : Int} {x : D} (h : Od x) : bad L i x = true := by
  unfold bad
  rw [h.2.1, h.2.2]
  rfl
theorem bad_fr {L i : Int} {x : D} (h : Fr x) : bad L i x = false := by
  unfold bad
  rw [h.le]
  rfl
/-- what is asked of the value of one turn -/
def Turn (m : D) (many : Nat) (v : D) (k : Nat) : Prop := EV.fz v = true ∧ c_19 [m, v] = .ex 4 (.int (k : Nat)) []
theorem od_fz {x : D} (h : Od x) : EV.fz x = true := (okE_v h.1).2
theorem turn_od {m : D} {many p l : Nat} {P : List D} {o1 o2 : D} (hm : MK m many) (hP : ∀ x ∈ P, Fr x) (hl : P.length = many + 3) (hp : p < many + 3) (hl2 : l < many + 3) (h1 : Od o1) (h2 : Od o2) : Turn m many (.tup ((P.set l o1).set p o2)) (min p l) := by
  have hall : ∀ x ∈ (P.set l o1).set p o2, okE x = true := set_all (set_all (fun x hx => (hP x hx).ok) h1.1) h2.1
  have hz : fzs ((P.set l o1).set p o2) = true := by
    rw [fzs_all, List.all_eq_true]
    exact fun d hd => (okE_v (hall d hd)).2
  have len : ((P.set l o1).set p o2).length = many + 3 := by simp [hl]
  refine ⟨hz, ?_⟩
  have hi : min p l < ((P.set l o1).set p o2).length := by omega
  have hb : ∀ (i : Int), bad ((many : Int) + 3) i (((P.set l o1).set p o2)[min p l]) = true := fun i => by
    by_cases hpl : p ≤ l
    · have e : min p l = p := Nat.min_eq_left hpl
      simp only [e, List.getElem_set_self]
      exact bad_od h2
    · have e : min p l = l := Nat.min_eq_right (by omega)
      simp only [e]
      rw [List.getElem_set_ne (by omega), List.getElem_set_self]
      exact bad_od h1
  refine cp_bad hm hz len hall (List.getElem?_eq_getElem hi) (hb _) fun j y hj hy => ?_
  rw [List.getElem?_set_ne (by omega), List.getElem?_set_ne (by omega)] at hy
  exact bad_fr (hP y (List.mem_of_getElem? hy))
theorem turn_non {m : D} {many p : Nat} {P : List D} (hm : MK m many) (hP : ∀ x ∈ P, Fr x) (hl : P.length = many + 3) (hp : p < many + 2) : Turn m many (.tup ((P.set (many + 2) .non).set p .non)) p := by
  have hall : ∀ x ∈ (P.set (many + 2) .non).set p .non, okE x = true := set_all (set_all (fun x hx => (hP x hx).ok) rfl) rfl
  have hz : fzs ((P.set (many + 2) .non).set p .non) = true := by
    rw [fzs_all, List.all_eq_true]
    exact fun d hd => (okE_v (hall d hd)).2
  have len : ((P.set (many + 2) .non).set p .non).length = many + 3 := by simp [hl]
  refine ⟨hz, ?_⟩
  have hi : p < ((P.set (many + 2) .non).set p .non).length := by omega
  refine cp_bad (x := .non) hm hz len hall ?_ ?_ fun j y hj hy => ?_
  · rw [List.getElem?_set_self (by simp [hl]; omega)]
  · have : ((0 + p : Nat) : Int) < (many : Int) + 3 - 1 := by omega
    simp only [bad, isN, this]
    rfl
  · rw [List.getElem?_set_ne (by omega), List.getElem?_set_ne (by omega)] at hy
    exact bad_fr (hP y (List.mem_of_getElem? hy))
end LW

set_option exponentiation.threshold 2000
namespace LW
open PySem PySem.Spec L2 EV
theorem loopS {tg : CT} {ms : MS} {ds : List D} {e : DEnv} (E : Option D → DEnv) (h0 : ∃ x, e = E x) (hput : ∀ d x, put tg d (E x) = some (E (some d))) (hs : ∀ d ∈ ds, ms (E (some d)) = .nx (E (some d))) : ∃ x, forL tg ms ds e = .nx (E x) := by
  refine forL_rule (tg := tg) (m := ms) (fun r => ∃ x, r = .nx (E x)) (ds := ds) (fun _ e => ∃ x, e = E x) h0 ?_ ?_
  · rintro k d e hk ⟨x, rfl⟩
    rw [hput, stO_some, hs d (List.mem_of_getElem? hk)]
    exact ⟨_, rfl⟩
  · rintro e ⟨x, rfl⟩
    exact ⟨x, rfl⟩
theorem turn_ok {m : D} {many : Nat} {P : List D} {nm : Bool} (hmany : many < 100) (hm : MK m many) (hP : ∀ x ∈ P, Fr x) (hl : P.length = many + 3) (k : Int) (a b : Int) (x5 x6 x8 x9 : Option D) :
    ∃ a' b' y5 y8 y9, s_33_1 (rv a b m many P nm x5 x6 (some (.int k)) x8 x9) = .nx (rv a' b' m many P nm y5 x6 (some (.int k)) y8 y9) := by
  obtain ⟨p, a1, b1, p0, p1, t1⟩ := take_s a b ((many : Int) + 3) (by omega) (by omega)
  obtain ⟨l, a2, b2, l0, l1, t2⟩ := take_s a1 b1 ((many : Int) + 3) (by omega) (by omega)
  obtain ⟨o1, a3, b3, ho1, c1⟩ := odd_ok a2 b2
  obtain ⟨o2, a4, b4, ho2, c2⟩ := odd_ok a3 b3
  obtain ⟨p, rfl⟩ := Int.eq_ofNat_of_zero_le p0
  obtain ⟨l, rfl⟩ := Int.eq_ofNat_of_zero_le l0
  have hz := ent_fz (xs := P) fun x hx => .inl (hP x hx)
  have hs1 := set_ok (xs := P) (k := l) (x := o1) (by omega) (by omega) hz (od_fz ho1)
  have hz1 : fzs (P.set l o1) = true := by
    rw [fzs_all, List.all_eq_true]
    exact set_all (fun x hx => (hP x hx).fz) (od_fz ho1)
  have hs2 := set_ok (xs := P.set l o1) (k := p) (x := o2) (by rw [List.length_set]; omega) (by rw [List.length_set]; omega) hz1 (od_fz ho2)
  obtain ⟨tz, tc⟩ := turn_od hm hP hl (p := p) (l := l) (by omega) (by omega) ho1 ho2
  have fm := frz_of _ hm.1
  have g1 := frz_of _ (od_fz ho1)
  have g2 := frz_of _ (od_fz ho2)
  have fP := frzs_of _ hz
  have fP1 := frzs_of _ hz1
  have e2 : ((many : Int) + 2) = ((many + 2 : Nat) : Int) := by omega
  by_cases hk : k < 2 ∧ p < many + 2
  · have hs3 := set_ok (xs := P) (k := many + 2) (x := .non) (by omega) (by omega) hz rfl
    have hz3 : fzs (P.set (many + 2) .non) = true := by
      rw [fzs_all, List.all_eq_true]
      exact set_all (fun x hx => (hP x hx).fz) rfl
    have hs4 := set_ok (xs := P.set (many + 2) .non) (k := p) (x := .non) (by rw [List.length_set]; omega) (by rw [List.length_set]; omega) hz3 rfl
    obtain ⟨uz, uc⟩ := turn_non hm hP hl hk.2
    have h1 := tl_ex (b := nm) hm.1 uz uc
    have h2 := same_ref (k := (p : Nat))
    have fP3 := frzs_of _ hz3
    have hk1 : k < 2 := hk.1
    have hk2 : (p : Int) < (many : Int) + 2 := by omega
    have z0 : fzs ((P.set l o1).set p o2) = true := tz
    have z1 : fzs ((P.set (many + 2) .non).set p .non) = true := uz
    have fz0 := frzs_of _ z0
    have fz1 := frzs_of _ z1
    generalize (P.set l o1).set p o2 = X at *
    generalize (P.set (many + 2) .non).set p .non = Y at *
    generalize P.set l o1 = P1 at *
    generalize P.set (many + 2) .non = P3 at *
    refine ⟨a4, b4, some (.tup Y), some (.int (p : Nat)), some (.int (p : Nat)), ?_⟩
    unfold s_33_1
    rw [← e2] at hs3
    simp [t1, t2, c1, c2, hs1, hs2, hs3, hs4, h1, h2, hz, hz1, hz3, fP, fP1, fP3, g1, g2, od_fz ho1, od_fz ho2, hm.1, fm, hk1, hk2, z0, z1, fz0, fz1]
  · have h1 := tl_ex (b := nm) hm.1 tz tc
    have h2 := same_ref (k := ((min p l : Nat) : Nat))
    have hmin : (if l < p then (l : Int) else (p : Int)) = ((min p l : Nat) : Int) := by
      split <;> omega
    have z0 : fzs ((P.set l o1).set p o2) = true := tz
    have fz0 := frzs_of _ z0
    generalize (P.set l o1).set p o2 = X at *
    generalize P.set l o1 = P1 at *
    refine ⟨a4, b4, some (.tup X), some (.int (p : Nat)), some (.int (l : Nat)), ?_⟩
    unfold s_33_1
    generalize min p l = q at *
    by_cases hk1 : k < 2
    · have hk2 : ¬ (p : Int) < (many : Int) + 2 := by
        intro h
        exact hk ⟨hk1, by omega⟩
      simp [t1, t2, c1, c2, hs1, hs2, h1, h2, hz, hz1, fP, fP1, g1, g2, od_fz ho1, od_fz ho2, hm.1, fm, hk1, hk2, z0, fz0, hmin]
    · simp [t1, t2, c1, c2, hs1, hs2, h1, h2, hz, hz1, fP, fP1, g1, g2, od_fz ho1, od_fz ho2, hm.1, fm, hk1, z0, fz0, hmin]
end LW

set_option exponentiation.threshold 2000
namespace LW
open PySem PySem.Spec L2 EV
theorem turns_ok {m : D} {many : Nat} {P : List D} {nm : Bool} (hmany : many < 100) (hm : MK m many) (hP : ∀ x ∈ P, Fr x) (hl : P.length = many + 3) (a b : Int) (x5 x6 x7 x8 x9 : Option D) :
    ∃ a' b' y5 y7 y8 y9, forL (.v 7) s_33_1 (rangeD 0 8) (rv a b m many P nm x5 x6 x7 x8 x9) = .nx (rv a' b' m many P nm y5 x6 y7 y8 y9) := by
  refine forL_rule (tg := .v 7) (m := s_33_1) (fun r => ∃ a' b' y5 y7 y8 y9, r = .nx (rv a' b' m many P nm y5 x6 y7 y8 y9)) (ds := rangeD 0 8)
    (fun _ e => ∃ a b x5 x7 x8 x9, e = rv a b m many P nm x5 x6 x7 x8 x9) ⟨a, b, x5, x7, x8, x9, rfl⟩ ?_ ?_
  · rintro j d e hk ⟨a1, b1, y5, y7, y8, y9, rfl⟩
    obtain ⟨rfl, _⟩ := rg_get hk
    obtain ⟨a2, b2, z5, z8, z9, h⟩ := turn_ok (nm := nm) hmany hm hP hl (0 + (j : Int)) a1 b1 y5 x6 y8 y9
    simp only [put_v, stO_some, List.set_cons_succ, List.set_cons_zero]
    rw [h]
    exact ⟨a2, b2, z5, _, z8, z9, rfl⟩
  · rintro e ⟨a1, b1, y5, y7, y8, y9, rfl⟩
    exact ⟨a1, b1, y5, y7, y8, y9, rfl⟩
theorem prices_ok (a b : Int) {m : D} {many : Nat} (hmany : many < 100) : ∃ (P : List D) (a' b' : Int), P.length = many + 3 ∧ (∀ x ∈ P, Fr x) ∧
    lcL [8] (.v 8) mTrue q_33_4 (rangeD 0 ((many : Int) + 3)) [] [some (bx a b), some m, some (.int (many : Nat)), none, none, none, none, none, none, none] = .ok P [some (bx a' b'), some m, some (.int (many : Nat)), none, none, none, none, none, none, none] := by
  obtain ⟨a', b', acc, h1, h2, h3⟩ := lc_box (i := 8) (n := many + 3) (elt := q_33_4) (E := fun a b => [some (bx a b), some m, some (.int (many : Nat)), none, none, none, none, none, none, none]) Fr (by omega) (by
    intro a b k hk
    obtain ⟨x, a2, b2, hx, p⟩ := great_ok a b
    refine ⟨x, a2, b2, [some (bx a2 b2), some m, some (.int (many : Nat)), none, none, none, none, none, some (.int (k : Nat)), none], hx, ?_, rfl⟩
    unfold q_33_4
    simp [p, frz_of _ hx.fz]) a b
  refine ⟨acc, a', b', h1, h2, ?_⟩
  have e : (((many + 3 : Nat) : Nat) : Int) = (many : Int) + 3 := by omega
  rw [← e]
  exact h3
theorem right_ok {m : D} {many : Nat} (hmany : many < 100) (hm : MK m many) (a b : Int) : ∃ a' b', c_33 [bx a b, m, .int (many : Nat)] = .ok (.bl true) [bx a' b'] := by
  obtain ⟨P, a1, b1, hl, hP, hpr⟩ := prices_ok a b (m := m) hmany
  obtain ⟨r, a2, b2, _, _, t1⟩ := take_s a1 b1 2 (by omega) (by omega)
  have hz := ent_fz (xs := P) fun x hx => .inl (hP x hx)
  have fP := frzs_of _ hz
  have fm := frz_of _ hm.1
  have rg : rngOk ((many : Int) + 3) = true := rngOk_s (by omega) (by omega)
  have hll : P.length ≤ 1000000 := by omega
  have e2 : ((many : Int) + 2) = ((many + 2 : Nat) : Int) := by omega
  have hs3 := set_ok (xs := P) (k := many + 2) (x := .non) (by omega) (by omega) hz rfl
  rw [← e2] at hs3
  have hE : ∀ x ∈ P.set (many + 2) .non, Ent x := set_all (fun x hx => .inl (hP x hx)) (.inr rfl)
  have hz3 := ent_fz hE
  have fP3 := frzs_of _ hz3
  have hl3 : (P.set (many + 2) .non).length = many + 3 := by simp [hl]
  -- the right ones
  have cA : c_19 [m, .tup P] = .ok (.tup P) [] := cp_ok hm hz hl (fun x hx => (hP x hx).ok) fun i x hi => bad_fr (hP x (List.mem_of_getElem? hi))
  have cB : c_19 [m, .tup (P.set (many + 2) .non)] = .ok (.tup (P.set (many + 2) .non)) [] := cp_ok hm hz3 hl3 (fun x hx => (hE x hx).ok) fun i x hi => by
    by_cases hi2 : i = many + 2
    · subst hi2
      rw [List.getElem?_set_self (by omega)] at hi
      injection hi with hi
      subst hi
      have : ¬ ((0 + (many + 2) : Nat) : Int) < (many : Int) + 3 - 1 := by omega
      simp only [bad, isN, this]
      decide
    · rw [List.getElem?_set_ne (by omega)] at hi
      exact bad_fr (hP x (List.mem_of_getElem? hi))
  have pA : plS 38 (.tup P) = true := by
    show P.all (plS 37) = true
    rw [List.all_eq_true]
    exact fun x hx => (hP x hx).plN 36
  have pB : plS 38 (.tup (P.set (many + 2) .non)) = true := by
    show (P.set (many + 2) .non).all (plS 37) = true
    rw [List.all_eq_true]
    exact fun x hx => (hE x hx).pl 36
  generalize hQ : P.set (many + 2) .non = Q at *
  have cut : cutD P none (some ((many : Int) + 2)) = P.take (many + 2) := by rw [e2]; exact cut_to (by omega)
  have hall := hz
  rw [fzs_all, List.all_eq_true] at hall
  have zt : fzs (P.take (many + 2)) = true := by
    rw [fzs_all, List.all_eq_true]
    exact fun d hd => hall d (List.mem_of_mem_take hd)
  have ft := frzs_of _ zt
  have lt : (P.take (many + 2)).length = many + 2 := by rw [List.length_take]; omega
  generalize P.take (many + 2) = T at *
  have wr : ∀ v ∈ [D.non, .int 7, .bl true, .str "prices", .tup [], .lst false P, .tup T, .tup (P ++ [.tup [.int 1, .int 1]]), .tup [.tup P], .lst false [], .tup [.tup [.int 1, .int 2]]], fz v = true ∧ c_19 [m, v] = .ex 4 (.int (-1)) [] := by
    have ne : ∀ k : Nat, k ≠ many + 3 → (((k : Nat) : Int) == (many : Int) + 3) = false := fun k hk => by
      rw [beq_eq_false_iff_ne]
      omega
    intro v hv
    simp only [List.mem_cons, List.not_mem_nil, or_false] at hv
    have zP : fz (.tup P) = true := hz
    rcases hv with rfl | rfl | rfl | rfl | rfl | rfl | rfl | rfl | rfl | rfl | rfl
    · exact ⟨rfl, cp_not hm rfl rfl rfl⟩
    · exact ⟨rfl, cp_not hm rfl rfl rfl⟩
    · exact ⟨rfl, cp_not hm rfl rfl rfl⟩
    · exact ⟨rfl, cp_not hm rfl rfl rfl⟩
    · exact ⟨rfl, cp_not hm rfl rfl (ne 0 (by omega))⟩
    · have z : fz (.lst false P) = true := by simp [hz]
      exact ⟨z, cp_not hm rfl z rfl⟩
    · exact ⟨zt, cp_not hm rfl zt (by show ((T.length : Int) == _) = false; rw [lt]; exact ne _ (by omega))⟩
    · have z : fz (.tup (P ++ [.tup [.int 1, .int 1]])) = true := by
        show fzs _ = true
        rw [fzs_all, List.all_append, ← fzs_all, hz]
        rfl
      exact ⟨z, cp_not hm rfl z (by show (((P ++ [D.tup [.int 1, .int 1]]).length : Int) == _) = false; rw [List.length_append, hl]; exact ne _ (by simp))⟩
    · have z : fz (.tup [.tup P]) = true := by simp [hz]
      exact ⟨z, cp_not hm rfl z (ne 1 (by omega))⟩
    · exact ⟨rfl, cp_not hm rfl rfl rfl⟩
    · exact ⟨rfl, cp_not hm rfl rfl (ne 1 (by omega))⟩
  obtain ⟨y5, L3⟩ := loopS (tg := .v 5) (ms := s_33_3) (ds := [.tup P, .tup Q]) (E := fun x => rv a2 b2 m many P (r == 0) x none none none none) ⟨none, rfl⟩ (fun _ _ => rfl) (e := rv a2 b2 m many P (r == 0) none none none none none) fun d hd => by
    simp only [List.mem_cons, List.not_mem_nil, or_false] at hd
    rcases hd with rfl | rfl
    · exact s3_ok hm hz pA cA
    · exact s3_ok hm hz3 pB cB
  generalize hW : [D.non, .int 7, .bl true, .str "prices", .tup [], .lst false P, .tup T, .tup (P ++ [.tup [.int 1, .int 1]]), .tup [.tup P], .lst false [], .tup [.tup [.int 1, .int 2]]] = W at *
  obtain ⟨z5, L2⟩ := loopS (tg := .v 5) (ms := s_33_2) (ds := W) (E := fun x => rv a2 b2 m many P (r == 0) x (some (.lst false W)) none none none) ⟨y5, rfl⟩ (fun _ _ => rfl) (e := rv a2 b2 m many P (r == 0) y5 (some (.lst false W)) none none none) fun d hd => by
    obtain ⟨h1, h2⟩ := wr d hd
    exact s2_ok hm h1 h2
  obtain ⟨a3, b3, w5, w7, w8, w9, L1⟩ := turns_ok (nm := r == 0) hmany hm hP hl a2 b2 z5 (some (.lst false W)) none none none
  refine ⟨a3, b3, ?_⟩
  have rg8 : rngOk 8 = true := rfl
  have zW : fzs W = true := by
    rw [fzs_all, List.all_eq_true]
    exact fun d hd => (wr d hd).1
  have fW := frzs_of _ zW
  have lap : P.length + 1 ≤ 1000000 := by omega
  have lap2 : P.length ≤ 999999 := by omega
  unfold c_33 callF m_33
  have hWl : W.length ≤ 1000000 := by rw [← hW]; simp
  have fap : frzs (P ++ [D.tup [.int 1, .int 1]]) = P ++ [D.tup [.int 1, .int 1]] := by
    rw [frzs_app, fP]
    rfl
  simp [rg, hpr, hz, fP, tupleD, t1, hs3, hz3, fP3, L3, cut, zt, ft, hm.1, fm, lap2, fap, hW, hWl, zW, fW, L2, L1, rg8]
end LW

set_option exponentiation.threshold 2000
namespace LW
open PySem PySem.Spec L2 EV
abbrev bareD : D := .tup [.tup [.tup [.int 0]], .tup [.tup [.int 1]]]
theorem round_ok {ns : List Int} {k : Nat} {x3 x4 x5 : Option D} : ∃ y3 y4 y5, s_34_1 [some (.scr ns), some bareD, some (.int (k : Nat)), x3, x4, x5] = .nx [some (.scr ns), some bareD, some (.int (k : Nat)), y3, y4, y5] := by
  obtain ⟨a1, b1, h1⟩ := box_ok ns (k : Int) (by omega)
  obtain ⟨r, a2, b2, r0, r1, t1⟩ := take_s a1 b1 4 (by omega) (by omega)
  obtain ⟨r, rfl⟩ := Int.eq_ofNat_of_zero_le r0
  obtain ⟨t, a3, b3, _, _, t2⟩ := take_s a2 b2 5 (by omega) (by omega)
  obtain ⟨ms, a4, b4, hl, hz, h2⟩ := marks_ok a3 b3 (n := 1 + r) (by omega)
  have h3 := ring_ok (t := t) hz
  have hm := mk_ring (m0 := .tup [.tup [.tup [.int 0]], .tup [.tup [.int t]]]) (m1 := .tup [.tup [.tup [.int 0]], .tup [.tup [.int 1]]]) hz rfl rfl
  rw [hl] at hm
  obtain ⟨a5, b5, h4⟩ := right_ok (by omega) hm a4 b4
  have hb := mk_bare (m0 := bareD) (m1 := bareD) rfl rfl
  obtain ⟨a6, b6, h5⟩ := right_ok (by omega) hb a5 b5
  have h5 : c_33 [bx a5 b5, .tup [bareD, bareD, .tup [.tup [.non, .non]]], .int 1] = .ok (.bl true) [bx a6 b6] := h5
  have e1 : ((1 + r : Nat) : Int) = 1 + (r : Nat) := by omega
  rw [e1] at h2 h4
  have hf := frzs_of _ hz
  refine ⟨some (bx a6 b6), some (.int (1 + (r : Nat))), some (.tup [.tup [.tup [.tup [.int 0]], .tup [.tup [.int t]]], .tup [.tup [.tup [.int 0]], .tup [.tup [.int 1]]], .tup [.tup [.tup [.int 0, .tup ms, .int 0]]]]), ?_⟩
  unfold s_34_1
  simp [h1, t1, t2, h2, h3, h4, h5, hz, hf]
theorem rounds (ns : List Int) (j : Int) : ∃ e, forL (.v 2) s_34_1 (rangeD 0 j) [some (.scr ns), some bareD, none, none, none, none] = .nx e := by
  refine forL_rule (tg := .v 2) (m := s_34_1) (fun r => ∃ e, r = .nx e) (ds := rangeD 0 j)
    (fun _ e => ∃ x2 x3 x4 x5, e = [some (.scr ns), some bareD, x2, x3, x4, x5]) ⟨_, _, _, _, rfl⟩ ?_ ?_
  · rintro k d e hk ⟨x2, x3, x4, x5, rfl⟩
    obtain ⟨rfl, _⟩ := rg_get hk
    obtain ⟨y3, y4, y5, h⟩ := round_ok (ns := ns) (k := k) (x3 := x3) (x4 := x4) (x5 := x5)
    simp only [put_v, stO_some, List.set_cons_succ, List.set_cons_zero]
    have e0 : ((0 : Int) + (k : Nat)) = (k : Nat) := by omega
    rw [e0, h]
    exact ⟨_, _, _, _, rfl⟩
  · rintro e ⟨x2, x3, x4, x5, rfl⟩
    exact ⟨_, rfl⟩
theorem plain0 (ns : List Int) (h : ns.length ≤ 63) : ∃ e, m_34 [some (.scr ns), none, none, none, none, none] = .rt (.bl true) e := by
  obtain ⟨j, hj1, hj2, hj⟩ : ∃ j : Int, -1000 < j ∧ j < 1000 ∧ (mOp2 max2D (.e (mC (.int 2))) (.e (mOp2 min2D (.e (mOp1 lenD (.v 0))) (.e (mC (.int 5)))))) [some (.scr ns), some bareD, none, none, none, none] = .ok (.int j) [some (.scr ns), some bareD, none, none, none, none] := by
    by_cases h1 : (5 : Int) < (ns.length : Int)
    · exact ⟨5, by omega, by omega, by simp [h1, lenD]⟩
    · by_cases h2 : (ns.length : Int) > 2
      · exact ⟨ns.length, by omega, by omega, by simp [h1, h2, lenD]⟩
      · exact ⟨2, by omega, by omega, by simp [h1, h2, lenD]⟩
  obtain ⟨e, he⟩ := rounds ns j
  have rg : rngOk j = true := rngOk_s (by omega) (by omega)
  refine ⟨e, ?_⟩
  unfold m_34
  simp [hj, rg, he, -ap_op2]
theorem plain (ns : List Int) (h : ns.length ≤ 63) : ∃ fin, c_34 [.scr ns] = .ok (.bl true) fin := by
  obtain ⟨e, he⟩ := plain0 ns h
  unfold c_34 callF
  simp [he]
end LW

namespace LW
open PySem PySem.Spec PyProof.Rows L2 EV
def fn : List He.DefD := [d8, d9, d10, d12, d13, d14, d16, d17, d19, d21, d22, d23, d24, d25, d26, d27, d28, d29, d30, d31, d32, d33, d34]
def fa : List He.Fa := [.glo "is_int", .glo "is_number", .glo "is_tuple", .glo "common_part", .glo "check_fraction", .glo "is_least", .glo "first_marks", .glo "marks_many", .glo "check_prices", .glo "_law_box", .glo "_law_take", .glo "_law_pick", .glo "_law_same", .glo "_law_gcd", .glo "_law_lowest", .glo "_law_marks", .glo "_law_ring", .glo "_law_set", .glo "_law_great", .glo "_law_odd", .glo "_law_told", .glo "_law_right", .glo "law", .free "super", .free "len", .free "abs", .free "int", .free "tuple", .free "list", .free "max"] ++ [.free "min", .free "isinstance", .free "range", .free "zip", .free "enumerate", .free "bool", .free "str", .glo "OwnError", .glo "BadFraction", .glo "BadPoint", .glo "BadMarked", .glo "BadPrices", .glo "Refused", .exm "BadFraction" "BadFraction" true, .exm "BadPoint" "BadFraction" false, .exm "BadMarked" "BadFraction" false, .exm "BadPrices" "BadFraction" false, .exm "Refused" "BadFraction" false, .exm "BadFraction" "OwnError" true, .exm "BadPoint" "OwnError" true, .exm "BadMarked" "OwnError" true, .exm "BadPrices" "OwnError" true, .exm "Refused" "OwnError" true]
abbrev theRow : PySem.W.OpenRow := PySem.W.OpenLaw.row PySem.Challenge.rw_fairanyprice_k15_what_are_prices
def cs : List ClD := [k1, k2, k3, k4, k5]
def kx : List (Str × Str × Bool) := [("BadPrices", "Refused", false), ("BadPrices", "BadMarked", false), ("BadPrices", "BadPoint", false), ("BadPrices", "BadFraction", false), ("BadPrices", "BadPrices", true)]
abbrev theFile : Str := PySem.Challenge.pw_fairanyprice_k15_what_are_prices.main.file
abbrev theHook : PySem.W.Hook := hookC theFile 4 fa fn cs kx
def seen (s : PySem.W.SharedT) : AlC :=
  obsCG theFile 4 fa fn cs kx (HandSHeadRun.getT s)
theorem seen_eq (s : PySem.W.SharedT) : seen s = theHook.obs s.abs := obsCG_eq (HandSHeadRun.getT_eq s)
theorem runs (w : World) : HandSHeadRun.RunEq theRow (PySem.W.view theRow.prog [34]) theHook seen 8000
    ((["OwnError", "BadFraction", "BadPoint", "BadMarked", "BadPrices", "Refused", "is_int", "is_number", "is_tuple", "common_part", "check_fraction", "is_least", "first_marks", "marks_many", "check_prices", "_law_box", "_law_take", "_law_pick", "_law_same", "_law_gcd", "_law_lowest", "_law_marks", "_law_ring", "_law_set", "_law_great", "_law_odd", "_law_told", "_law_right"] : List Str)) w := by
  intro os
  kernel_rfl
theorem dn {w : World} {K : PySem.W.Frag} {h : Heap} {mg : Str → Option Value} (X : K.In h) (G : h.Ns mainGlobals mg) (cc : SaysC theFile fa fn cs kx K) : ∃ fd, Dn theRow.prog w K mg fd := by
  have c := cc.d
  obtain ⟨e8, F8⟩ := c.def_ 0 (d := d8) rfl
  obtain ⟨e9, F9⟩ := c.def_ 1 (d := d9) rfl
  obtain ⟨e10, F10⟩ := c.def_ 2 (d := d10) rfl
  obtain ⟨e12, F12⟩ := c.def_ 3 (d := d12) rfl
  obtain ⟨e13, F13⟩ := c.def_ 4 (d := d13) rfl
  obtain ⟨e14, F14⟩ := c.def_ 5 (d := d14) rfl
  obtain ⟨e16, F16⟩ := c.def_ 6 (d := d16) rfl
  obtain ⟨e17, F17⟩ := c.def_ 7 (d := d17) rfl
  obtain ⟨e19, F19⟩ := c.def_ 8 (d := d19) rfl
  obtain ⟨e21, F21⟩ := c.def_ 9 (d := d21) rfl
  obtain ⟨e22, F22⟩ := c.def_ 10 (d := d22) rfl
  obtain ⟨e23, F23⟩ := c.def_ 11 (d := d23) rfl
  obtain ⟨e24, F24⟩ := c.def_ 12 (d := d24) rfl
  obtain ⟨e25, F25⟩ := c.def_ 13 (d := d25) rfl
  obtain ⟨e26, F26⟩ := c.def_ 14 (d := d26) rfl
  obtain ⟨e27, F27⟩ := c.def_ 15 (d := d27) rfl
  obtain ⟨e28, F28⟩ := c.def_ 16 (d := d28) rfl
  obtain ⟨e29, F29⟩ := c.def_ 17 (d := d29) rfl
  obtain ⟨e30, F30⟩ := c.def_ 18 (d := d30) rfl
  obtain ⟨e31, F31⟩ := c.def_ 19 (d := d31) rfl
  obtain ⟨e32, F32⟩ := c.def_ 20 (d := d32) rfl
  obtain ⟨e33, F33⟩ := c.def_ 21 (d := d33) rfl
  obtain ⟨e34, F34⟩ := c.def_ 22 (d := d34) rfl
  refine ⟨fun n => match n with
    | 8 => e8
    | 9 => e9
    | 10 => e10
    | 12 => e12
    | 13 => e13
    | 14 => e14
    | 16 => e16
    | 17 => e17
    | 19 => e19
    | 21 => e21
    | 22 => e22
    | 23 => e23
    | 24 => e24
    | 25 => e25
    | 26 => e26
    | 27 => e27
    | 28 => e28
    | 29 => e29
    | 30 => e30
    | 31 => e31
    | 32 => e32
    | 33 => e33
    | 34 => e34
    | _ => e8, ?_⟩
  exact {
    f8 := F8
    m8 := He.glo_ok X G (c.fact 0 (f := .glo "is_int") rfl)
    f9 := F9
    m9 := He.glo_ok X G (c.fact 1 (f := .glo "is_number") rfl)
    f10 := F10
    m10 := He.glo_ok X G (c.fact 2 (f := .glo "is_tuple") rfl)
    f12 := F12
    m12 := He.glo_ok X G (c.fact 3 (f := .glo "common_part") rfl)
    f13 := F13
    m13 := He.glo_ok X G (c.fact 4 (f := .glo "check_fraction") rfl)
    f14 := F14
    m14 := He.glo_ok X G (c.fact 5 (f := .glo "is_least") rfl)
    f16 := F16
    m16 := He.glo_ok X G (c.fact 6 (f := .glo "first_marks") rfl)
    f17 := F17
    m17 := He.glo_ok X G (c.fact 7 (f := .glo "marks_many") rfl)
    f19 := F19
    m19 := He.glo_ok X G (c.fact 8 (f := .glo "check_prices") rfl)
    f21 := F21
    m21 := He.glo_ok X G (c.fact 9 (f := .glo "_law_box") rfl)
    f22 := F22
    m22 := He.glo_ok X G (c.fact 10 (f := .glo "_law_take") rfl)
    f23 := F23
    m23 := He.glo_ok X G (c.fact 11 (f := .glo "_law_pick") rfl)
    f24 := F24
    m24 := He.glo_ok X G (c.fact 12 (f := .glo "_law_same") rfl)
    f25 := F25
    m25 := He.glo_ok X G (c.fact 13 (f := .glo "_law_gcd") rfl)
    f26 := F26
    m26 := He.glo_ok X G (c.fact 14 (f := .glo "_law_lowest") rfl)
    f27 := F27
    m27 := He.glo_ok X G (c.fact 15 (f := .glo "_law_marks") rfl)
    f28 := F28
    m28 := He.glo_ok X G (c.fact 16 (f := .glo "_law_ring") rfl)
    f29 := F29
    m29 := He.glo_ok X G (c.fact 17 (f := .glo "_law_set") rfl)
    f30 := F30
    m30 := He.glo_ok X G (c.fact 18 (f := .glo "_law_great") rfl)
    f31 := F31
    m31 := He.glo_ok X G (c.fact 19 (f := .glo "_law_odd") rfl)
    f32 := F32
    m32 := He.glo_ok X G (c.fact 20 (f := .glo "_law_told") rfl)
    f33 := F33
    m33 := He.glo_ok X G (c.fact 21 (f := .glo "_law_right") rfl)
    f34 := F34
    m34 := He.glo_ok X G (c.fact 22 (f := .glo "law") rfl)
    fr := fun x hx => by
      rcases List.mem_cons.mp hx with hx | hx
      · subst hx; exact He.free_ok X G (c.fact 23 (f := .free "super") rfl)
      rcases List.mem_cons.mp hx with hx | hx
      · subst hx; exact He.free_ok X G (c.fact 24 (f := .free "len") rfl)
      rcases List.mem_cons.mp hx with hx | hx
      · subst hx; exact He.free_ok X G (c.fact 25 (f := .free "abs") rfl)
      rcases List.mem_cons.mp hx with hx | hx
      · subst hx; exact He.free_ok X G (c.fact 26 (f := .free "int") rfl)
      rcases List.mem_cons.mp hx with hx | hx
      · subst hx; exact He.free_ok X G (c.fact 27 (f := .free "tuple") rfl)
      rcases List.mem_cons.mp hx with hx | hx
      · subst hx; exact He.free_ok X G (c.fact 28 (f := .free "list") rfl)
      rcases List.mem_cons.mp hx with hx | hx
      · subst hx; exact He.free_ok X G (c.fact 29 (f := .free "max") rfl)
      rcases List.mem_cons.mp hx with hx | hx
      · subst hx; exact He.free_ok X G (c.fact 30 (f := .free "min") rfl)
      rcases List.mem_cons.mp hx with hx | hx
      · subst hx; exact He.free_ok X G (c.fact 31 (f := .free "isinstance") rfl)
      rcases List.mem_cons.mp hx with hx | hx
      · subst hx; exact He.free_ok X G (c.fact 32 (f := .free "range") rfl)
      rcases List.mem_cons.mp hx with hx | hx
      · subst hx; exact He.free_ok X G (c.fact 33 (f := .free "zip") rfl)
      rcases List.mem_cons.mp hx with hx | hx
      · subst hx; exact He.free_ok X G (c.fact 34 (f := .free "enumerate") rfl)
      rcases List.mem_cons.mp hx with hx | hx
      · subst hx; exact He.free_ok X G (c.fact 35 (f := .free "bool") rfl)
      rcases List.mem_cons.mp hx with hx | hx
      · subst hx; exact He.free_ok X G (c.fact 36 (f := .free "str") rfl)
      cases hx
    mx0 := He.glo_ok X G (c.fact 37 (f := .glo "OwnError") rfl)
    mx1 := He.glo_ok X G (c.fact 38 (f := .glo "BadFraction") rfl)
    x1 := cl_ok (n := 1) (c := k1) kok1 (cc.cl 0 (d := k1) rfl).1 (cc.cl 0 (d := k1) rfl).2 (by decide +kernel) (He.glo_ok X G (c.fact 38 (f := .glo "BadFraction") rfl)) rfl rfl
    xf1 := (cl_ok (prog := theRow.prog) (w := w) (mg := mg) (g := g0 K) (n := 1) (c := k1) kok1 (cc.cl 0 (d := k1) rfl).1 (cc.cl 0 (d := k1) rfl).2 (by decide +kernel) (He.glo_ok X G (c.fact 38 (f := .glo "BadFraction") rfl)) rfl rfl).xf
    xe1 := exc_of (cc.cl 0 (d := k1) rfl).2
    xo1 := (cl_ok (prog := theRow.prog) (w := w) (mg := mg) (g := g0 K) (n := 1) (c := k1) kok1 (cc.cl 0 (d := k1) rfl).1 (cc.cl 0 (d := k1) rfl).2 (by decide +kernel) (He.glo_ok X G (c.fact 38 (f := .glo "BadFraction") rfl)) rfl rfl).no
    mx2 := He.glo_ok X G (c.fact 39 (f := .glo "BadPoint") rfl)
    x2 := cl_ok (n := 2) (c := k2) kok2 (cc.cl 1 (d := k2) rfl).1 (cc.cl 1 (d := k2) rfl).2 (by decide +kernel) (He.glo_ok X G (c.fact 39 (f := .glo "BadPoint") rfl)) rfl rfl
    xf2 := (cl_ok (prog := theRow.prog) (w := w) (mg := mg) (g := g0 K) (n := 2) (c := k2) kok2 (cc.cl 1 (d := k2) rfl).1 (cc.cl 1 (d := k2) rfl).2 (by decide +kernel) (He.glo_ok X G (c.fact 39 (f := .glo "BadPoint") rfl)) rfl rfl).xf
    xe2 := exc_of (cc.cl 1 (d := k2) rfl).2
    xo2 := (cl_ok (prog := theRow.prog) (w := w) (mg := mg) (g := g0 K) (n := 2) (c := k2) kok2 (cc.cl 1 (d := k2) rfl).1 (cc.cl 1 (d := k2) rfl).2 (by decide +kernel) (He.glo_ok X G (c.fact 39 (f := .glo "BadPoint") rfl)) rfl rfl).no
    mx3 := He.glo_ok X G (c.fact 40 (f := .glo "BadMarked") rfl)
    x3 := cl_ok (n := 3) (c := k3) kok3 (cc.cl 2 (d := k3) rfl).1 (cc.cl 2 (d := k3) rfl).2 (by decide +kernel) (He.glo_ok X G (c.fact 40 (f := .glo "BadMarked") rfl)) rfl rfl
    xf3 := (cl_ok (prog := theRow.prog) (w := w) (mg := mg) (g := g0 K) (n := 3) (c := k3) kok3 (cc.cl 2 (d := k3) rfl).1 (cc.cl 2 (d := k3) rfl).2 (by decide +kernel) (He.glo_ok X G (c.fact 40 (f := .glo "BadMarked") rfl)) rfl rfl).xf
    xe3 := exc_of (cc.cl 2 (d := k3) rfl).2
    xo3 := (cl_ok (prog := theRow.prog) (w := w) (mg := mg) (g := g0 K) (n := 3) (c := k3) kok3 (cc.cl 2 (d := k3) rfl).1 (cc.cl 2 (d := k3) rfl).2 (by decide +kernel) (He.glo_ok X G (c.fact 40 (f := .glo "BadMarked") rfl)) rfl rfl).no
    mx4 := He.glo_ok X G (c.fact 41 (f := .glo "BadPrices") rfl)
    x4 := cl_ok (n := 4) (c := k4) kok4 (cc.cl 3 (d := k4) rfl).1 (cc.cl 3 (d := k4) rfl).2 (by decide +kernel) (He.glo_ok X G (c.fact 41 (f := .glo "BadPrices") rfl)) rfl rfl
    xf4 := (cl_ok (prog := theRow.prog) (w := w) (mg := mg) (g := g0 K) (n := 4) (c := k4) kok4 (cc.cl 3 (d := k4) rfl).1 (cc.cl 3 (d := k4) rfl).2 (by decide +kernel) (He.glo_ok X G (c.fact 41 (f := .glo "BadPrices") rfl)) rfl rfl).xf
    xe4 := exc_of (cc.cl 3 (d := k4) rfl).2
    xo4 := (cl_ok (prog := theRow.prog) (w := w) (mg := mg) (g := g0 K) (n := 4) (c := k4) kok4 (cc.cl 3 (d := k4) rfl).1 (cc.cl 3 (d := k4) rfl).2 (by decide +kernel) (He.glo_ok X G (c.fact 41 (f := .glo "BadPrices") rfl)) rfl rfl).no
    mx5 := He.glo_ok X G (c.fact 42 (f := .glo "Refused") rfl)
    x5 := cl_ok (n := 5) (c := k5) kok5 (cc.cl 4 (d := k5) rfl).1 (cc.cl 4 (d := k5) rfl).2 (by decide +kernel) (He.glo_ok X G (c.fact 42 (f := .glo "Refused") rfl)) rfl rfl
    xf5 := (cl_ok (prog := theRow.prog) (w := w) (mg := mg) (g := g0 K) (n := 5) (c := k5) kok5 (cc.cl 4 (d := k5) rfl).1 (cc.cl 4 (d := k5) rfl).2 (by decide +kernel) (He.glo_ok X G (c.fact 42 (f := .glo "Refused") rfl)) rfl rfl).xf
    xe5 := exc_of (cc.cl 4 (d := k5) rfl).2
    xo5 := (cl_ok (prog := theRow.prog) (w := w) (mg := mg) (g := g0 K) (n := 5) (c := k5) kok5 (cc.cl 4 (d := k5) rfl).1 (cc.cl 4 (d := k5) rfl).2 (by decide +kernel) (He.glo_ok X G (c.fact 42 (f := .glo "Refused") rfl)) rfl rfl).no
    em1_1 := He.exm_ok (c.fact 43 (f := .exm "BadFraction" "BadFraction" true) rfl)
    em2_1 := He.exm_ok (c.fact 44 (f := .exm "BadPoint" "BadFraction" false) rfl)
    em3_1 := He.exm_ok (c.fact 45 (f := .exm "BadMarked" "BadFraction" false) rfl)
    em4_1 := He.exm_ok (c.fact 46 (f := .exm "BadPrices" "BadFraction" false) rfl)
    em5_1 := He.exm_ok (c.fact 47 (f := .exm "Refused" "BadFraction" false) rfl)
    em1_0 := He.exm_ok (c.fact 48 (f := .exm "BadFraction" "OwnError" true) rfl)
    em2_0 := He.exm_ok (c.fact 49 (f := .exm "BadPoint" "OwnError" true) rfl)
    em3_0 := He.exm_ok (c.fact 50 (f := .exm "BadMarked" "OwnError" true) rfl)
    em4_0 := He.exm_ok (c.fact 51 (f := .exm "BadPrices" "OwnError" true) rfl)
    em5_0 := He.exm_ok (c.fact 52 (f := .exm "Refused" "OwnError" true) rfl)
    kt4_5 := cc.kit 0 (q := ("BadPrices", "Refused", false)) rfl
    kt4_3 := cc.kit 1 (q := ("BadPrices", "BadMarked", false)) rfl
    kt4_2 := cc.kit 2 (q := ("BadPrices", "BadPoint", false)) rfl
    kt4_1 := cc.kit 3 (q := ("BadPrices", "BadFraction", false)) rfl
    kt4_4 := cc.kit 4 (q := ("BadPrices", "BadPrices", true)) rfl
  }
end LW
open PySem PySem.W PySem.Calls PyProof.Rows
theorem PySem.Challenge.cw_fairanyprice_k15_what_are_prices_holds : PySem.Challenge.rw_fairanyprice_k15_what_are_prices.Holds := by
  w_on; o_law
  refine HandSHeadRun.head_any (r := LW.theRow) (q := view LW.theRow.prog [34]) (H := LW.theHook) (ob := LW.seen)
    (M := 8000) (loose := ((["OwnError", "BadFraction", "BadPoint", "BadMarked", "BadPrices", "Refused", "is_int", "is_number", "is_tuple", "common_part", "check_fraction", "is_least", "first_marks", "marks_many", "check_prices", "_law_box", "_law_take", "_law_pick", "_law_same", "_law_gcd", "_law_lowest", "_law_marks", "_law_ring", "_law_set", "_law_great", "_law_odd", "_law_told", "_law_right"] : List PySem.Str)))
    (d := HandSHeadRun.topDef LW.theRow.prog 34) (kwd := []) LW.seen_eq
    (by kernel_rfl) (fun s => by kernel_rfl) LW.runs (by kernel_rfl) (by kernel_rfl) (by kernel_rfl)
    (by rfl) (by first | assumption | decide +kernel) (by decide +kernel)
    ⟨rfl, rfl, rfl, rfl, rfl, by decide +kernel⟩ ?hw ?hc
  case hw => w_witness2
  case hc =>
    refine L2.walk_ofE (l := PySem.Challenge.rw_fairanyprice_k15_what_are_prices) (n := 63) (k := 42) (x := "script")
      (CX := fun o H s E u s' => ∃ w, L2.CX PySem.Challenge.rw_fairanyprice_k15_what_are_prices.prog w o H s E u s')
      rfl (by decide) (by kernel_rfl) ⟨rfl, by decide, by decide⟩ ?F (fun _ _ _ _ ⟨_, _, _, _, _, _, _, _, _, _, _, _, _, z⟩ => z)
    intro w mg fa h Y G hmg0
    obtain ⟨K, KX, c⟩ := Y
    obtain ⟨fd, T⟩ := LW.dn (w := w) KX G c
    have hmg : mg ("law" : PySem.Str) = some (.ref fa) := by
      have e : (HandSHeadRun.topDef LW.theRow.prog 34).name = ("law" : PySem.Str) := by kernel_rfl
      rw [← e]; exact hmg0
    have e := hmg.symm.trans T.m34
    injection e with e
    injection e with e
    subst e
    refine ⟨K, fd 34, EV.Prom ⟨LW.g0 K, K⟩ LW.mask_34 LW.c_34, KX, fun s u => ?_, fun H a ns hl _ hS => ?_, fun base _ _ => ?_⟩
    · exact L2.FunD.bindsA (ps := ["script"]) T.f34 (fun _ _ _ _ _ _ us hl => match us, hl with | [_], _ => rfl) s [u] rfl
    · obtain ⟨fin, hp⟩ := LW.plain ns hl
      refine ⟨rfl, H, [], [.scr ns], EV.ROs.consZ (.scr hS) .nil, List.nodup_nil, (fun _ z => nomatch z), (fun _ _ z => z), ?_⟩
      rw [hp]
      exact fun v F' H' q r ro _ _ _ _ _ => ro.bl_inv
    · exact EV.weakCX (fun o H s E u s' z => ⟨w, z⟩) (LW.ok_34 T)
