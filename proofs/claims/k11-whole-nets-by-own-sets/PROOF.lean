import PyProof.Rows.All
import Wide.All
import OpenK.AllK
import Wide.FinOn
import HandS.ForMost
import HandS.Walk
import HandS.IsInst
import HandS.Deep
import HandS.Property
import HandS.MakeKwOnly
import HandS.Flow
import PySem.Challenge.RW_outsigns_k11_whole_nets_by_own_sets
import HandS.SortOrd
import HandS.More
import HandS.Dict
import KE.KDictCopyH
import HandS.Text
import HandS.TupLe
import PyProof.InstEq
import HandS.DictComp
import KE.GoesMore
import HandS.TupAny
import HandS.Star
import HandS.ClsMeth
import HandS.Style
import HandS.FStr
import PyProof.Rows.RegFStrParts
import PyProof.Rows.ReprR
import HandS.Codes
import HandS.DeepEq
import HandS.Ends
import HandS.MakeKw
set_option Elab.async false
set_option linter.all false
set_option maxRecDepth 100000
set_option maxHeartbeats 4000000
/-! K11A: values as data over the clean part of the heap; the state; the judgements on data. -/
namespace K11
open PySem L2

/-! ## data -/
inductive D where
  | non
  | bl (b : Bool)
  | int (i : Int)
  | str (s : Str)
  | lst (l : List D)
  | tup (l : List D)
  | dic (l : List (Str × D))
  | net (ns : List Str) (ls : List (Str × Str)) (nr : List (Str × List Str))
  | pot
  | nl (l : List D)
  | ty (n : String)
  | cls
abbrev Lk := Str × Str
def sS (l : List Str) : List D := l.map D.str
def dP (p : Lk) : D := .tup [.str p.1, .str p.2]
def dPs (l : List Lk) : List D := l.map dP
def nearD (nr : List (Str × List Str)) : List (Str × D) := nr.map fun p => (p.1, .tup (sS p.2))

structure Wd where
  K : PySem.W.Frag
  C : Addr
  pot : Addr
  old : Addr → Prop

def netFs (t1 t2 d : Addr) : List (Str × V) := putF "own_near" (.ref d) (putF "own_links" (.ref t2) (putF "own_nodes" (.ref t1) []))

theorem same_t {K : PySem.W.Frag} {H H' : Hp} {a : Addr} {xs : List V} (e : Same H H') (h : SqT K H a xs) : SqT K H' a xs := by
  rcases h with (h | ⟨o, h⟩) | h
  · exact .inl (.inl (e _ _ h))
  · exact .inl (.inr ⟨o, e _ _ h⟩)
  · exact .inr h

/-- a tuple that is tracked, or the written empty one -/
def TupH (K : PySem.W.Frag) (H : Hp) (a : Addr) (xs : List V) : Prop := H a = some (.tup xs) ∨ (xs = [] ∧ SqT K (fun _ => none) a [])
theorem TupH.mono {K : PySem.W.Frag} {H H' : Hp} {a : Addr} {xs : List V} (e : Same H H') (h : TupH K H a xs) : TupH K H' a xs := h.imp (e _ _) id
theorem TupH.sq {K : PySem.W.Frag} {H : Hp} {a : Addr} {xs : List V} (h : TupH K H a xs) : SqT K H a xs := by
  rcases h with h | ⟨e, h⟩
  · exact .of h
  · subst e
    exact same_t (by intro b o z; cases z) h
theorem TupH.at_ {K : PySem.W.Frag} {H : Hp} {a : Addr} {x : V} {xs : List V} (h : TupH K H a (x :: xs)) : H a = some (.tup (x :: xs)) := by
  rcases h with h | ⟨e, h⟩
  · exact h
  · cases e
mutual
inductive Rep (W : Wd) (H : Hp) : V → D → Prop
  | non : Rep W H .non .non
  | bl (b : Bool) : Rep W H (.bl b) (.bl b)
  | int (i : Int) : Rep W H (.int i) (.int i)
  | str (s : Str) : Rep W H (.str s) (.str s)
  | lst {a : Addr} {xs : List V} {ds : List D} : H a = some (.lst xs) → Reps W H xs ds → Rep W H (.ref a) (.lst ds)
  | tup {a : Addr} {xs : List V} {ds : List D} : TupH W.K H a xs → Reps W H xs ds → Rep W H (.ref a) (.tup ds)
  | dic {a : Addr} {kvs : List (Key × V)} {ds : List (Str × D)} : H a = some (.dK kvs) → RepK W H kvs ds → Rep W H (.ref a) (.dic ds)
  | net {a dx t1 t2 d : Addr} {ns : List Str} {ls : List Lk} {nr : List (Str × List Str)} : H a = some (.ins W.C dx (netFs t1 t2 d)) → Rep W H (.ref t1) (.tup (sS ns)) → Rep W H (.ref t2) (.tup (dPs ls)) →
      Rep W H (.ref d) (.dic (nearD nr)) → Rep W H (.ref a) (.net ns ls nr)
  | pot : Rep W H (.ref W.pot) .pot
  | nl {a : Addr} {xs : List V} {ds : List D} : H a = some (.lst xs) → Reps W H xs ds → ¬ W.old a → Rep W H (.ref a) (.nl ds)
  | ty (n : String) : Rep W H (.ty n) (.ty n)
  | cls : Rep W H (.ref W.C) .cls
inductive Reps (W : Wd) (H : Hp) : List V → List D → Prop
  | nil : Reps W H [] []
  | cons {x : V} {xs : List V} {d : D} {ds : List D} : Rep W H x d → Reps W H xs ds → Reps W H (x :: xs) (d :: ds)
inductive RepK (W : Wd) (H : Hp) : List (Key × V) → List (Str × D) → Prop
  | nil : RepK W H [] []
  | cons {k : Str} {x : V} {xs : List (Key × V)} {d : D} {ds : List (Str × D)} : Rep W H x d → RepK W H xs ds → RepK W H ((.inr k, x) :: xs) ((k, d) :: ds)
end

mutual
theorem Rep.mono {W : Wd} {H H' : Hp} (e : Same H H') : ∀ {v : V} {d : D}, Rep W H v d → Rep W H' v d
  | _, _, .non => .non
  | _, _, .bl b => .bl b
  | _, _, .int i => .int i
  | _, _, .str s => .str s
  | _, _, .lst h r => .lst (e _ _ h) (Reps.mono e r)
  | _, _, .tup h r => .tup (h.mono e) (Reps.mono e r)
  | _, _, .dic h r => .dic (e _ _ h) (RepK.mono e r)
  | _, _, .net h r1 r2 r3 => .net (e _ _ h) (Rep.mono e r1) (Rep.mono e r2) (Rep.mono e r3)
  | _, _, .pot => .pot
  | _, _, .nl h r n => .nl (e _ _ h) (Reps.mono e r) n
  | _, _, .ty n => .ty n
  | _, _, .cls => .cls
theorem Reps.mono {W : Wd} {H H' : Hp} (e : Same H H') : ∀ {v : List V} {d : List D}, Reps W H v d → Reps W H' v d
  | _, _, .nil => .nil
  | _, _, .cons h r => .cons (Rep.mono e h) (Reps.mono e r)
theorem RepK.mono {W : Wd} {H H' : Hp} (e : Same H H') : ∀ {v : List (Key × V)} {d : List (Str × D)}, RepK W H v d → RepK W H' v d
  | _, _, .nil => .nil
  | _, _, .cons h r => .cons (Rep.mono e h) (RepK.mono e r)
end
section
variable {W : Wd} {H : Hp}
theorem Reps.length : ∀ {xs : List V} {ds : List D}, Reps W H xs ds → xs.length = ds.length
  | _, _, .nil => rfl
  | _, _, .cons _ r => congrArg (· + 1) r.length
theorem Reps.get : ∀ {xs : List V} {ds : List D} {i : Nat} {x : V}, Reps W H xs ds → xs[i]? = some x → ∃ d, ds[i]? = some d ∧ Rep W H x d
  | _, _, _, _, .nil, e => by simp at e
  | _, _, 0, _, .cons r _, e => by simp at e; subst e; exact ⟨_, rfl, r⟩
  | _, _, i + 1, _, .cons _ r, e => by
    obtain ⟨d, h1, h2⟩ := Reps.get (i := i) r (by simpa using e)
    exact ⟨d, by simpa using h1, h2⟩
theorem Reps.getD : ∀ {xs : List V} {ds : List D} {i : Nat} {d : D}, Reps W H xs ds → ds[i]? = some d → ∃ x, xs[i]? = some x ∧ Rep W H x d
  | _, _, _, _, .nil, e => by simp at e
  | _, _, 0, _, .cons r _, e => by simp at e; subst e; exact ⟨_, rfl, r⟩
  | _, _, i + 1, _, .cons _ r, e => by
    obtain ⟨d, h1, h2⟩ := Reps.getD (i := i) r (by simpa using e)
    exact ⟨d, by simpa using h1, h2⟩
theorem Reps.app : ∀ {xs ys : List V} {ds es : List D}, Reps W H xs ds → Reps W H ys es → Reps W H (xs ++ ys) (ds ++ es)
  | _, _, _, _, .nil, s => s
  | _, _, _, _, .cons r t, s => .cons r (Reps.app t s)
theorem Reps.one {x : V} {d : D} (r : Rep W H x d) : Reps W H [x] [d] := .cons r .nil
theorem Reps.dropLast : ∀ {xs : List V} {ds : List D}, Reps W H xs ds → Reps W H xs.dropLast ds.dropLast
  | _, _, .nil => .nil
  | _, _, .cons _ .nil => .nil
  | _, _, .cons r (.cons r' t) => .cons r (Reps.dropLast (.cons r' t))
theorem Reps.eraseIdx : ∀ {xs : List V} {ds : List D} (k : Nat), Reps W H xs ds → Reps W H (xs.eraseIdx k) (ds.eraseIdx k)
  | _, _, _, .nil => .nil
  | _, _, 0, .cons _ t => t
  | _, _, k + 1, .cons r t => .cons r (Reps.eraseIdx k t)
theorem Reps.take : ∀ {xs : List V} {ds : List D} (k : Nat), Reps W H xs ds → Reps W H (xs.take k) (ds.take k)
  | _, _, 0, _ => .nil
  | _, _, _ + 1, .nil => .nil
  | _, _, k + 1, .cons r t => .cons r (Reps.take k t)
theorem Reps.drop : ∀ {xs : List V} {ds : List D} (k : Nat), Reps W H xs ds → Reps W H (xs.drop k) (ds.drop k)
  | _, _, 0, r => r
  | _, _, _ + 1, .nil => .nil
  | _, _, k + 1, .cons _ t => Reps.drop k t
theorem Reps.rep {xs : List V} {ds : List D} (r : Reps W H xs ds) : ∀ n : Nat, Reps W H (List.replicate n xs).flatten (List.replicate n ds).flatten
  | 0 => .nil
  | n + 1 => by
    rw [List.replicate_succ, List.replicate_succ, List.flatten_cons, List.flatten_cons]
    exact r.app (Reps.rep r n)
theorem Rep.nl_lst {v : V} {l : List D} (h : Rep W H v (.nl l)) : Rep W H v (.lst l) := by
  cases h with
  | nl a b c => exact .lst a b
theorem Rep.str_inv {v : V} {s : Str} (h : Rep W H v (.str s)) : v = .str s := by cases h; rfl
theorem Rep.int_inv {v : V} {s : Int} (h : Rep W H v (.int s)) : v = .int s := by cases h; rfl
theorem Rep.bl_inv {v : V} {s : Bool} (h : Rep W H v (.bl s)) : v = .bl s := by cases h; rfl
theorem Rep.non_inv {v : V} (h : Rep W H v .non) : v = .non := by cases h; rfl
theorem Reps.strs : ∀ {xs : List V} {l : List Str}, Reps W H xs (sS l) → xs = l.map V.str
  | _, [], h => by cases h; rfl
  | _, s :: l, h => by
    cases h with
    | cons h r => rw [h.str_inv, Reps.strs (l := l) r]; rfl
theorem Reps.of_strs : ∀ (l : List Str), Reps W H (l.map V.str) (sS l)
  | [] => .nil
  | s :: l => .cons (.str s) (Reps.of_strs l)
def sB (l : List Bool) : List D := l.map D.bl
theorem Reps.bools : ∀ {xs : List V} {l : List Bool}, Reps W H xs (sB l) → xs = l.map V.bl
  | _, [], h => by cases h; rfl
  | _, s :: l, h => by
    cases h with
    | cons h r => rw [h.bl_inv, Reps.bools (l := l) r]; rfl
theorem RepK.val : ∀ {xs : List (Key × V)} {ds : List (Str × D)}, RepK W H xs ds → ∀ k : Str, (valV xs (.inr k) = none ∧ ds.lookup k = none) ∨ ∃ v d, valV xs (.inr k) = some v ∧ ds.lookup k = some d ∧ Rep W H v d
  | _, _, .nil, k => .inl ⟨rfl, rfl⟩
  | _, _, .cons (k := j) (x := x) (d := d) r t, k => by
    by_cases e : k = j
    · subst e
      exact .inr ⟨x, d, valV_pos rfl, by simp, r⟩
    · have e' : ¬ (Sum.inr j : Key) = Sum.inr k := fun q => e (Sum.inr.inj q).symm
      rw [valV_neg e']
      rcases t.val k with ⟨h1, h2⟩ | ⟨v, d, h1, h2, h3⟩
      · exact .inl ⟨h1, by rw [List.lookup_cons, show (k == j) = false from by simpa using e]; exact h2⟩
      · exact .inr ⟨v, d, h1, by rw [List.lookup_cons, show (k == j) = false from by simpa using e]; exact h2, h3⟩
theorem RepK.length : ∀ {xs : List (Key × V)} {ds : List (Str × D)}, RepK W H xs ds → xs.length = ds.length
  | _, _, .nil => rfl
  | _, _, .cons _ r => congrArg (· + 1) r.length
end

/-! ## the clean part of a heap -/
open Classical in
noncomputable def cut (M : Addr → Prop) (H : Hp) : Hp := fun b => if M b then none else H b
theorem cut_some {M : Addr → Prop} {H : Hp} {b : Addr} {o : HO} : cut M H b = some o ↔ ¬ M b ∧ H b = some o := by
  unfold cut
  split <;> simp_all
theorem cut_same {M : Addr → Prop} {H : Hp} : Same (cut M H) H := fun _ _ h => (cut_some.mp h).2
def Ext (M : Addr → Prop) (H H' : Hp) : Prop := ∀ b o, ¬ M b → H b = some o → H' b = some o
theorem Ext.cut {M : Addr → Prop} {H H' : Hp} (e : Ext M H H') : Same (cut M H) (cut M H') := fun b o h => let ⟨h1, h2⟩ := cut_some.mp h; cut_some.mpr ⟨h1, e b o h1 h2⟩
theorem Ext.refl {M : Addr → Prop} {H : Hp} : Ext M H H := fun _ _ _ h => h
theorem Ext.trans {M : Addr → Prop} {H H1 H2 : Hp} (a : Ext M H H1) (b : Ext M H1 H2) : Ext M H H2 := fun x o n h => b x o n (a x o n h)
theorem Ext.of_same {M : Addr → Prop} {H H' : Hp} (e : Same H H') : Ext M H H' := fun b o _ h => e b o h
theorem same_new {H : Hp} {p : Addr} {o : HO} (h : H p = none) : Same H (upd H p o) := fun a u e => by
  rw [upd_ne (ne_of_none e h)]
  exact e
def addM (M : Addr → Prop) (p : Addr) : Addr → Prop := fun b => M b ∨ b = p
theorem cut_add {M : Addr → Prop} {H : Hp} {p : Addr} : Same (cut (addM M p) H) (cut M H) := fun b o h => by
  obtain ⟨h1, h2⟩ := cut_some.mp h
  exact cut_some.mpr ⟨fun z => h1 (.inl z), h2⟩
theorem cut_sub {M M' : Addr → Prop} {H : Hp} (s : ∀ b, M b → M' b) : Same (cut M' H) (cut M H) := fun b o h => by
  obtain ⟨h1, h2⟩ := cut_some.mp h
  exact cut_some.mpr ⟨fun z => h1 (s b z), h2⟩
theorem cut_upd {M : Addr → Prop} {H : Hp} {p : Addr} {o : HO} (h : M p) : Same (cut M H) (cut M (upd H p o)) := fun b u e => by
  obtain ⟨h1, h2⟩ := cut_some.mp e
  exact cut_some.mpr ⟨h1, by rw [upd_ne (fun z => h1 (by rw [z]; exact h))]; exact h2⟩

/-! ## the state -/
def PotAt (H : Hp) (p : Addr) : Prop := ∃ a b : Int, H p = some (.lst [.int a, .int b]) ∧ 0 ≤ b ∧ b < 2147483648
structure Bs where
  W : Wd
  M0 : Addr → Prop
  H0 : Hp
inductive Ent where
  | no
  | da (d : D)
  | ow (l : List D)
  | owK (l : List (Str × D))
  | owT (l : List Lk)
  | ins (a : Addr) (fs : List (Str × D))
abbrev Ctx := List Ent
def Ent.own : Ent → Bool
  | .no => false
  | .da _ => false
  | _ => true
structure Own (B : Bs) (M : Addr → Prop) (p : Addr) : Prop where
  m : M p
  np : p ≠ B.W.pot
  h0 : B.H0 p = none
  m0 : ¬ B.M0 p
inductive RepF (W : Wd) (H : Hp) : List (Str × V) → List (Str × D) → Prop
  | nil : RepF W H [] []
  | cons {k : Str} {x : V} {xs : List (Str × V)} {d : D} {ds : List (Str × D)} : Rep W H x d → RepF W H xs ds → RepF W H ((k, x) :: xs) ((k, d) :: ds)
theorem RepF.mono {W : Wd} {H H' : Hp} (e : Same H H') : ∀ {v : List (Str × V)} {d : List (Str × D)}, RepF W H v d → RepF W H' v d
  | _, _, .nil => .nil
  | _, _, .cons h r => .cons (Rep.mono e h) (RepF.mono e r)
structure RepI (a p : Addr) (W : Wd) (H : Hp) (v : List (Str × V)) (d : List (Str × D)) : Prop where
  eq : p = a
  fs : RepF W H v d
theorem RepI.mono {a p : Addr} {W : Wd} {H H' : Hp} {v : List (Str × V)} {d : List (Str × D)} (r : RepI a p W H v d) (e : Same H H') : RepI a p W H' v d := ⟨r.eq, r.fs.mono e⟩
def linkK (p : Lk) : List Key := [.inr p.1, .inr p.2]
def EntOk (B : Bs) (M : Addr → Prop) (H : Hp) (ov : Option V) : Ent → Prop
  | .no => True
  | .da d => ∃ v, ov = some v ∧ Rep B.W (cut M H) v d
  | .ow l => ∃ p xs, ov = some (.ref p) ∧ Own B M p ∧ H p = some (.lst xs) ∧ Reps B.W (cut M H) xs l
  | .owK l => ∃ p xs, ov = some (.ref p) ∧ Own B M p ∧ H p = some (.dK xs) ∧ RepK B.W (cut M H) xs l
  | .owT l => ∃ p, ov = some (.ref p) ∧ Own B M p ∧ H p = some (.dT (l.map fun q => (linkK q, .bl true)))
  | .ins a fs => ∃ p dx xs, ov = some (.ref p) ∧ Own B M p ∧ H p = some (.ins B.W.C dx xs) ∧ RepI a p B.W (cut M H) xs fs
structure Stt (B : Bs) (M : Addr → Prop) (H : Hp) (σ : L2.St) (Γ : Ctx) : Prop where
  pt : PotAt H B.W.pot
  mp : M B.W.pot
  kp : ∀ b o, b ≠ B.W.pot → B.H0 b = some o → H b = some o
  sub : ∀ m, B.M0 m → M m
  new : ∀ m, M m → B.M0 m ∨ B.H0 m = none
  dom : ∀ m, M m → H m ≠ none
  tp : ∀ m xs, M m → H m ≠ some (.tup xs)
  len : σ.length = Γ.length
  ent : ∀ (i : Nat) e, Γ[i]? = some e → EntOk B M H (σ[i]?.join) e
  inj : ∀ (i j : Nat) e f p, Γ[i]? = some e → Γ[j]? = some f → e.own = true → f.own = true → σ[i]? = some (some (.ref p)) → σ[j]? = some (some (.ref p)) → i = j

section
variable {B : Bs} {M : Addr → Prop} {H H' : Hp} {σ : L2.St} {Γ : Ctx}
theorem PotAt.ne {p : Addr} (h : PotAt H p) : H p ≠ none := by
  obtain ⟨a, b, h, _⟩ := h
  rw [h]
  exact fun z => nomatch z
theorem Stt.npot (S : Stt B M H σ Γ) {p : Addr} (h : H p = none) : p ≠ B.W.pot := fun e => S.pt.ne (e ▸ h)
theorem Stt.free0 (S : Stt B M H σ Γ) {p : Addr} (h : H p = none) : B.H0 p = none := by
  cases q : B.H0 p with
  | none => rfl
  | some o => rw [S.kp p o (S.npot h) q] at h; cases h
theorem Stt.notM (S : Stt B M H σ Γ) {p : Addr} (h : H p = none) : ¬ M p := fun z => S.dom p z h
theorem EntOk.mono {ov : Option V} : ∀ {e : Ent}, EntOk B M H ov e → Ext M H H' → (∀ m, M m → m ≠ B.W.pot → H' m = H m) → EntOk B M H' ov e
  | .no, _, _, _ => trivial
  | .da _, ⟨v, e, r⟩, x, _ => ⟨v, e, r.mono x.cut⟩
  | .ow _, ⟨p, xs, e, o, h, r⟩, x, k => ⟨p, xs, e, o, (k p o.m o.np).trans h, r.mono x.cut⟩
  | .owK _, ⟨p, xs, e, o, h, r⟩, x, k => ⟨p, xs, e, o, (k p o.m o.np).trans h, r.mono x.cut⟩
  | .owT _, ⟨p, e, o, h⟩, x, k => ⟨p, e, o, (k p o.m o.np).trans h⟩
  | .ins _ _, ⟨p, dx, xs, e, o, h, r⟩, x, k => ⟨p, dx, xs, e, o, (k p o.m o.np).trans h, r.mono x.cut⟩
/-- the clean part has grown, the pot may have changed -/
theorem Stt.mono (S : Stt B M H σ Γ) (x : Ext M H H') (k : ∀ m, M m → m ≠ B.W.pot → H' m = H m) (pt : PotAt H' B.W.pot) : Stt B M H' σ Γ where
  pt := pt
  mp := S.mp
  kp := fun b o n h => by
    have h1 := S.kp b o n h
    by_cases m : M b
    · rw [k b m n]; exact h1
    · exact x b o m h1
  sub := S.sub
  new := S.new
  dom := fun m hm => by
    by_cases e : m = B.W.pot
    · rw [e]; exact pt.ne
    · rw [k m hm e]; exact S.dom m hm
  tp := fun m xs hm => by
    by_cases e : m = B.W.pot
    · rw [e]
      obtain ⟨a, b, z, _⟩ := pt
      rw [z]
      exact fun z => nomatch z
    · rw [k m hm e]; exact S.tp m xs hm
  len := S.len
  ent := fun i e h => (S.ent i e h).mono x k
  inj := S.inj
theorem Stt.alloc (S : Stt B M H σ Γ) {p : Addr} {o : HO} (h : H p = none) : Stt B M (upd H p o) σ Γ := by
  refine S.mono (Ext.of_same (same_new h)) (fun m hm _ => upd_ne (fun z => S.dom m hm (z ▸ h))) ?_
  obtain ⟨a, b, e, r⟩ := S.pt
  exact ⟨a, b, by rw [upd_ne (S.npot h).symm]; exact e, r⟩
/-- a new object becomes one's own -/
theorem Stt.gain (S : Stt B M H σ Γ) {p : Addr} {o : HO} (h0 : B.H0 p = none) (hM : ¬ M p) (hp : H p = some o) (np : p ≠ B.W.pot) (nt : ∀ xs, o ≠ .tup xs)
    (ent : ∀ (i : Nat) e, Γ[i]? = some e → EntOk B (addM M p) H (σ[i]?.join) e) : Stt B (addM M p) H σ Γ where
  pt := S.pt
  mp := .inl S.mp
  kp := S.kp
  sub := fun m h => .inl (S.sub m h)
  new := fun m h => h.elim (S.new m) fun e => .inr (e ▸ h0)
  dom := fun m h => h.elim (S.dom m) fun e => by rw [e, hp]; exact fun z => nomatch z
  tp := fun m xs h => h.elim (S.tp m xs) fun e => by rw [e, hp]; exact fun z => nt xs (Option.some.inj z)
  len := S.len
  ent := ent
  inj := S.inj
end

/-- the clean part has grown, one's own objects are as they were; the pot may have changed -/
structure Fx (pot : Addr) (M : Addr → Prop) (H H' : Hp) : Prop where
  ext : Ext M H H'
  own : ∀ m, M m → m ≠ pot → H' m = H m
theorem Fx.refl {pot : Addr} {M : Addr → Prop} {H : Hp} : Fx pot M H H := ⟨Ext.refl, fun _ _ _ => rfl⟩
theorem Fx.trans {pot : Addr} {M : Addr → Prop} {H H1 H2 : Hp} (a : Fx pot M H H1) (b : Fx pot M H1 H2) : Fx pot M H H2 := ⟨a.ext.trans b.ext, fun m h n => (b.own m h n).trans (a.own m h n)⟩
theorem Fx.cut {pot : Addr} {M : Addr → Prop} {H H' : Hp} (e : Fx pot M H H') : Same (cut M H) (cut M H') := e.ext.cut
theorem Fx.of {pot : Addr} {M : Addr → Prop} {H H' : Hp} (k : ∀ m, M m → H' m = H m) (e : Same H H') : Fx pot M H H' := ⟨Ext.of_same e, fun m h _ => k m h⟩
theorem Stt.new_ {B : Bs} {M : Addr → Prop} {H : Hp} {σ : L2.St} {Γ : Ctx} (S : Stt B M H σ Γ) {p : Addr} {o : HO} (h : H p = none) : Fx B.W.pot M H (upd H p o) :=
  ⟨Ext.of_same (same_new h), fun m hm _ => upd_ne (fun z => S.dom m hm (z ▸ h))⟩
theorem Stt.fx {B : Bs} {M : Addr → Prop} {H H' : Hp} {σ : L2.St} {Γ : Ctx} (S : Stt B M H σ Γ) (x : Fx B.W.pot M H H') (pt : PotAt H' B.W.pot) : Stt B M H' σ Γ := S.mono x.ext x.own pt

/-! ## the judgements -/
/-- an expression gives a datum of which R holds; the state as it was -/
def WE (B : Bs) (te : TE) (Γ : Ctx) (R : D → Prop) : Prop :=
  ∀ M σ H, Stt B M H σ Γ → ∀ Q : VK, (∀ v H' d, Stt B M H' σ Γ → Fx B.W.pot M H H' → Rep B.W (cut M H') v d → R d → Q v H') → te σ H Q
def WT (B : Bs) (tt : TT) (Γ : Ctx) (R : Bool → Prop) : Prop :=
  ∀ M σ H, Stt B M H σ Γ → ∀ Q : Bool → Hp → Prop, (∀ b H', Stt B M H' σ Γ → Fx B.W.pot M H H' → R b → Q b H') → tt σ H Q
def WA (B : Bs) (ta : TA) (Γ : Ctx) (R : List D → Prop) : Prop :=
  ∀ M σ H, Stt B M H σ Γ → ∀ Q : List V → Hp → Prop, (∀ vs H' ds, Stt B M H' σ Γ → Fx B.W.pot M H H' → Reps B.W (cut M H') vs ds → R ds → Q vs H') → ta σ H Q
/-- a new list -/
def WO (B : Bs) (te : TE) (Γ : Ctx) (R : List D → Prop) : Prop :=
  ∀ M σ H, Stt B M H σ Γ → ∀ Q : VK, (∀ p xs H' l, Stt B M H' σ Γ → Fx B.W.pot M H H' → H p = none → H' p = some (.lst xs) → Reps B.W (cut (addM M p) H') xs l → R l → Q (.ref p) H') → te σ H Q
structure Po where
  nx : Ctx → Prop := fun _ => False
  rt : D → Prop := fun _ => False
  ro : List D → Prop := fun _ => False
  bk : Ctx → Prop := fun _ => False
  ct : Ctx → Prop := fun _ => False
structure EndsOk (B : Bs) (M0 : Addr → Prop) (H0 : Hp) (P : Po) (E : Ends) : Prop where
  nx : ∀ M σ H Γ, Stt B M H σ Γ → Same (cut M0 H0) (cut M H) → P.nx Γ → E.nx σ H
  rt : ∀ M σ H Γ v d, Stt B M H σ Γ → Rep B.W (cut M H) v d → P.rt d → E.rt v H
  ro : ∀ M σ H Γ p xs l, Stt B M H σ Γ → Own B M p → H p = some (.lst xs) → Reps B.W (cut M H) xs l → P.ro l → E.rt (.ref p) H
  bk : ∀ M σ H Γ, Stt B M H σ Γ → Same (cut M0 H0) (cut M H) → P.bk Γ → E.bk σ H
  ct : ∀ M σ H Γ, Stt B M H σ Γ → Same (cut M0 H0) (cut M H) → P.ct Γ → E.ct σ H
def WS (B : Bs) (t : TS) (Γ : Ctx) (P : Po) : Prop :=
  ∀ M σ H, Stt B M H σ Γ → ∀ E : Ends, EndsOk B M H P E → t E σ H
end K11

/-! K11B: the judgements' rules: names, constants, operators, calls of built-ins, displays, statements. -/
namespace K11
open PySem L2

section
variable {B : Bs} {Γ : Ctx} {R R' : D → Prop} {te ta tb td ty tx : TE} {tt tu : TT}

theorem WE.imp (h : WE B te Γ R) (k : ∀ d, R d → R' d) : WE B te Γ R' := fun M σ H S Q q => h M σ H S Q fun v H' d S' x r hr => q v H' d S' x r (k d hr)
theorem WO.imp {R R' : List D → Prop} (h : WO B te Γ R) (k : ∀ d, R d → R' d) : WO B te Γ R' := fun M σ H S Q q => h M σ H S Q fun p xs H' l S' x f hp r hr => q p xs H' l S' x f hp r (k l hr)
theorem WT.imp {R R' : Bool → Prop} (h : WT B tt Γ R) (k : ∀ d, R d → R' d) : WT B tt Γ R' := fun M σ H S Q q => h M σ H S Q fun b H' S' x hr => q b H' S' x (k b hr)
theorem WA.imp {R R' : List D → Prop} {t : TA} (h : WA B t Γ R) (k : ∀ d, R d → R' d) : WA B t Γ R' := fun M σ H S Q q => h M σ H S Q fun vs H' ds S' x r hr => q vs H' ds S' x r (k ds hr)
/-- a new list, looked at as data -/
theorem WO.we {R : D → Prop} (h : WO B te Γ fun l => R (.lst l)) : WE B te Γ R := fun M σ H S Q q => h M σ H S Q fun p xs H' l S' x f hp r hr =>
  q _ H' _ S' x (.lst (cut_some.mpr ⟨S.notM f, hp⟩) (r.mono cut_add)) hr

/-! names and constants -/
theorem we_var {i : Nat} {d : D} (h : Γ[i]? = some (.da d)) (q : R d) : WE B (tVar i) Γ R := fun M σ H S Q k => by
  obtain ⟨v, e, r⟩ := S.ent i _ h
  refine ⟨v, ?_, k v H d S Fx.refl r q⟩
  cases z : σ[i]? with
  | none => rw [z] at e; cases e
  | some o => rw [z] at e; exact congrArg some e
theorem we_int {i : Int} (q : R (.int i)) : WE B (tC (.int i)) Γ R := fun M σ H S Q k => k _ H _ S Fx.refl (.int i) q
theorem we_str {i : Str} (q : R (.str i)) : WE B (tC (.str i)) Γ R := fun M σ H S Q k => k _ H _ S Fx.refl (.str i) q
theorem we_bl {i : Bool} (q : R (.bl i)) : WE B (tC (.bl i)) Γ R := fun M σ H S Q k => k _ H _ S Fx.refl (.bl i) q
theorem we_non (q : R .non) : WE B (tC .non) Γ R := fun M σ H S Q k => k _ H _ S Fx.refl .non q

/-! a rule by values, on data -/
def V2 (B : Bs) (r : R2) (x y : D) (R : D → Prop) : Prop := ∀ M H v u, Rep B.W (cut M H) v x → Rep B.W (cut M H) u y → PotAt H B.W.pot → (∀ m, M m → H m ≠ none) → M B.W.pot → ∀ Q : VK,
  (∀ w H' d, (∀ m, M m → H' m = H m) → Same H H' → Rep B.W (cut M H') w d → R d → Q w H') → r v u H Q
def V1 (B : Bs) (r : V → Hp → VK → Prop) (x : D) (R : D → Prop) : Prop := ∀ M H v, Rep B.W (cut M H) v x → PotAt H B.W.pot → (∀ m, M m → H m ≠ none) → M B.W.pot → ∀ Q : VK,
  (∀ w H' d, (∀ m, M m → H' m = H m) → Same H H' → Rep B.W (cut M H') w d → R d → Q w H') → r v H Q
/-- .. that gives a new list -/
def V2O (B : Bs) (r : R2) (x y : D) (R : List D → Prop) : Prop := ∀ M H v u, Rep B.W (cut M H) v x → Rep B.W (cut M H) u y → PotAt H B.W.pot → (∀ m, M m → H m ≠ none) → M B.W.pot → ∀ Q : VK,
  (∀ p xs H' l, H p = none → H' = upd H p (.lst xs) → Reps B.W (cut M H) xs l → R l → Q (.ref p) H') → r v u H Q
def VC (B : Bs) (r : List V → Hp → VK → Prop) (x : List D) (R : D → Prop) : Prop := ∀ M H v, Reps B.W (cut M H) v x → PotAt H B.W.pot → (∀ m, M m → H m ≠ none) → M B.W.pot → ∀ Q : VK,
  (∀ w H' d, (∀ m, M m → H' m = H m) → Same H H' → Rep B.W (cut M H') w d → R d → Q w H') → r v H Q
def VCO (B : Bs) (r : List V → Hp → VK → Prop) (x : List D) (R : List D → Prop) : Prop := ∀ M H v, Reps B.W (cut M H) v x → PotAt H B.W.pot → (∀ m, M m → H m ≠ none) → M B.W.pot → ∀ Q : VK,
  (∀ p xs H' l, H p = none → H' = upd H p (.lst xs) → Reps B.W (cut M H) xs l → R l → Q (.ref p) H') → r v H Q

theorem potAt_same {H H' : Hp} {p : Addr} (h : PotAt H p) (e : H' p = H p) : PotAt H' p := by
  obtain ⟨a, b, q, r⟩ := h
  exact ⟨a, b, e.trans q, r⟩
theorem Stt.same {M : Addr → Prop} {σ : L2.St} {H H' : Hp} (S : Stt B M H σ Γ) (k : ∀ m, M m → H' m = H m) (e : Same H H') : Stt B M H' σ Γ :=
  S.mono (Ext.of_same e) (fun m hm _ => k m hm) (potAt_same S.pt (k _ S.mp))

theorem we_op {r : R2} (h : WE B ta Γ fun x => WE B tb Γ fun y => V2 B r x y R) : WE B (tOp r ta tb) Γ R := fun M σ H S Q q =>
  h M σ H S _ fun v H1 x S1 e1 r1 h1 => h1 M σ H1 S1 _ fun u H2 y S2 e2 r2 h2 => h2 M H2 v u (r1.mono e2.cut) r2 S2.pt S2.dom S2.mp Q fun w H3 d k e3 r3 hr =>
    q w H3 d (S2.same k e3) ((e1.trans e2).trans (Fx.of k e3)) r3 hr
theorem wo_op {r : R2} {R : List D → Prop} (h : WE B ta Γ fun x => WE B tb Γ fun y => V2O B r x y R) : WO B (tOp r ta tb) Γ R := fun M σ H S Q q =>
  h M σ H S _ fun v H1 x S1 e1 r1 h1 => h1 M σ H1 S1 _ fun u H2 y S2 e2 r2 h2 => h2 M H2 v u (r1.mono e2.cut) r2 S2.pt S2.dom S2.mp Q fun p xs H3 l hp e3 r3 hr => by
    subst e3
    have f : H p = none := by
      cases z : H p with
      | none => rfl
      | some o =>
        by_cases m : M p
        · exact absurd hp (S2.dom p m)
        · rw [(e1.trans e2).ext p o m z] at hp; cases hp
    exact q p xs _ l (S2.alloc hp) ((e1.trans e2).trans (S2.new_ hp)) f upd_same (r3.mono fun b o z => by
      obtain ⟨z1, z2⟩ := cut_some.mp z
      have nb : b ≠ p := ne_of_none z2 hp
      exact cut_some.mpr ⟨fun zz => zz.elim z1 nb, by rw [upd_ne nb]; exact z2⟩) hr
theorem we_un {r : V → Hp → VK → Prop} (h : WE B ta Γ fun x => V1 B r x R) : WE B (tUn r ta) Γ R := fun M σ H S Q q =>
  h M σ H S _ fun v H1 x S1 e1 r1 h1 => h1 M H1 v r1 S1.pt S1.dom S1.mp Q fun w H3 d k e3 r3 hr => q w H3 d (S1.same k e3) (e1.trans (Fx.of k e3)) r3 hr
theorem fresh_ext {M : Addr → Prop} {σ : L2.St} {H H' : Hp} {p : Addr} (S : Stt B M H' σ Γ) (e : Fx B.W.pot M H H') (hp : H' p = none) : H p = none := by
  cases z : H p with
  | none => rfl
  | some o =>
    by_cases m : M p
    · exact absurd hp (S.dom p m)
    · rw [e.ext p o m z] at hp; cases hp
theorem cut_alloc {M : Addr → Prop} {H : Hp} {p : Addr} {o : HO} (hp : H p = none) : Same (cut M H) (cut (addM M p) (upd H p o)) := fun b u z => by
  obtain ⟨z1, z2⟩ := cut_some.mp z
  have nb : b ≠ p := ne_of_none z2 hp
  exact cut_some.mpr ⟨fun zz => zz.elim z1 nb, by rw [upd_ne nb]; exact z2⟩
theorem cut_alloc' {M : Addr → Prop} {H : Hp} {p : Addr} {o : HO} (hp : H p = none) : Same (cut M H) (cut M (upd H p o)) := fun b u z => by
  obtain ⟨z1, z2⟩ := cut_some.mp z
  exact cut_some.mpr ⟨z1, by rw [upd_ne (ne_of_none z2 hp)]; exact z2⟩

/-! calls of built-ins -/
theorem wa_nil {R : List D → Prop} (q : R []) : WA B tNil Γ R := fun M σ H S Q k => k _ H _ S Fx.refl .nil q
theorem wa_cons {t : TA} {R : List D → Prop} (h : WE B ta Γ fun x => WA B t Γ fun xs => R (x :: xs)) : WA B (tCons ta t) Γ R := fun M σ H S Q q =>
  h M σ H S _ fun v H1 x S1 e1 r1 h1 => h1 M σ H1 S1 _ fun vs H2 xs S2 e2 r2 hr => q (v :: vs) H2 (x :: xs) S2 (e1.trans e2) (.cons (r1.mono e2.cut) r2) hr
theorem we_cb {r : List V → Hp → VK → Prop} {t : TA} (h : WA B t Γ fun xs => VC B r xs R) : WE B (tCB r t) Γ R := fun M σ H S Q q =>
  h M σ H S _ fun v H1 x S1 e1 r1 h1 => h1 M H1 v r1 S1.pt S1.dom S1.mp Q fun w H3 d k e3 r3 hr => q w H3 d (S1.same k e3) (e1.trans (Fx.of k e3)) r3 hr
theorem wo_cb {r : List V → Hp → VK → Prop} {t : TA} {R : List D → Prop} (h : WA B t Γ fun xs => VCO B r xs R) : WO B (tCB r t) Γ R := fun M σ H S Q q =>
  h M σ H S _ fun v H1 x S1 e1 r1 h1 => h1 M H1 v r1 S1.pt S1.dom S1.mp Q fun p xs H3 l hp e3 r3 hr => by
    subst e3
    exact q p xs _ l (S1.alloc hp) (e1.trans (S1.new_ hp)) (fresh_ext S1 e1 hp) upd_same (r3.mono (cut_alloc hp)) hr

/-! displays -/
theorem we_tup {t : TA} (h : WA B t Γ fun xs => xs.length ≤ 1000 ∧ R (.tup xs)) : WE B (tTup t) Γ R := fun M σ H S Q q =>
  h M σ H S _ fun vs H1 xs S1 e1 r1 ⟨hl, hr⟩ => ⟨by rw [r1.length]; exact Nat.le_of_lt (small1000 hl), fun p hp =>
    q _ _ _ (S1.alloc hp) (e1.trans (S1.new_ hp)) (.tup (.inl (cut_some.mpr ⟨S1.notM hp, upd_same⟩)) (r1.mono (cut_alloc' hp))) hr⟩
theorem wo_lst {t : TA} {R : List D → Prop} (h : WA B t Γ fun xs => xs.length ≤ 1000 ∧ R xs) : WO B (tLst t) Γ R := fun M σ H S Q q =>
  h M σ H S _ fun vs H1 xs S1 e1 r1 ⟨hl, hr⟩ => ⟨by rw [r1.length]; exact Nat.le_of_lt (small1000 hl), fun p hp =>
    q p vs _ xs (S1.alloc hp) (e1.trans (S1.new_ hp)) (fresh_ext S1 e1 hp) upd_same (r1.mono (cut_alloc hp)) hr⟩

/-! values' rules -/
theorem v2_same {r : R2} {x y d : D} (h : ∀ M H v u, Rep B.W (cut M H) v x → Rep B.W (cut M H) u y → ∀ Q : VK, (∀ w, Rep B.W (cut M H) w d → Q w H) → r v u H Q) (q : R d) : V2 B r x y R :=
  fun M H v u r1 r2 _ _ _ Q k => h M H v u r1 r2 Q fun w rw => k w H d (fun _ _ => rfl) (Same.refl H) rw q
theorem v2_or1 {r r' : R2} {x y : D} (h : V2 B r x y R) : V2 B (fun x y H Q => r x y H Q ∨ r' x y H Q) x y R := fun M H v u r1 r2 a b c Q k => .inl (h M H v u r1 r2 a b c Q k)
theorem v2_or2 {r r' : R2} {x y : D} (h : V2 B r' x y R) : V2 B (fun x y H Q => r x y H Q ∨ r' x y H Q) x y R := fun M H v u r1 r2 a b c Q k => .inr (h M H v u r1 r2 a b c Q k)
theorem v2o_or1 {r r' : R2} {x y : D} {R : List D → Prop} (h : V2O B r x y R) : V2O B (fun x y H Q => r x y H Q ∨ r' x y H Q) x y R := fun M H v u r1 r2 a b c Q k => .inl (h M H v u r1 r2 a b c Q k)
theorem v2o_or2 {r r' : R2} {x y : D} {R : List D → Prop} (h : V2O B r' x y R) : V2O B (fun x y H Q => r x y H Q ∨ r' x y H Q) x y R := fun M H v u r1 r2 a b c Q k => .inr (h M H v u r1 r2 a b c Q k)
theorem v2_I {C : Int → Int → Prop} {g : Int → Int → Int} {i j : Int} (c : C i j) (q : R (.int (g i j))) : V2 B (rI C fun i j => .int (g i j)) (.int i) (.int j) R :=
  v2_same (fun M H v u r1 r2 Q k => ⟨i, j, r1.int_inv, r2.int_inv, c, k _ (.int _)⟩) q
theorem v2_I0 {g : Int → Int → Int} {i j : Int} (q : R (.int (g i j))) : V2 B (rI0 fun i j => .int (g i j)) (.int i) (.int j) R :=
  v2_same (fun M H v u r1 r2 Q k => ⟨i, j, r1.int_inv, r2.int_inv, k _ (.int _)⟩) q
theorem v2_B0 {g : Int → Int → Bool} {i j : Int} (q : R (.bl (g i j))) : V2 B (rI0 fun i j => .bl (g i j)) (.int i) (.int j) R :=
  v2_same (fun M H v u r1 r2 Q k => ⟨i, j, r1.int_inv, r2.int_inv, k _ (.bl _)⟩) q
theorem v1_neg {i : Int} (q : R (.int (-i))) : V1 B (rU fun i => .int (-i)) (.int i) R := fun M H v r1 _ _ _ Q k => ⟨i, r1.int_inv, k _ H _ (fun _ _ => rfl) (Same.refl H) (.int _) q⟩
theorem v2_eqII {i j : Int} (q : R (.bl (decide (i = j)))) : V2 B rEq (.int i) (.int j) R :=
  v2_same (fun M H v u r1 r2 Q k => by
    rw [r1.int_inv, r2.int_inv]
    refine ⟨rfl, ?_⟩
    have e : decide (V.int i = V.int j) = decide (i = j) := by simp
    rw [e]
    exact k _ (.bl _)) q
theorem v2_neII {i j : Int} (q : R (.bl (!decide (i = j)))) : V2 B rNe (.int i) (.int j) R :=
  v2_same (fun M H v u r1 r2 Q k => by
    rw [r1.int_inv, r2.int_inv]
    refine ⟨rfl, ?_⟩
    have e : decide (V.int i = V.int j) = decide (i = j) := by simp
    rw [e]
    exact k _ (.bl _)) q
theorem v2_eqSS {i j : Str} (q : R (.bl (decide (i = j)))) : V2 B rEq (.str i) (.str j) R :=
  v2_same (fun M H v u r1 r2 Q k => by
    rw [r1.str_inv, r2.str_inv]
    refine ⟨rfl, ?_⟩
    have e : decide (V.str i = V.str j) = decide (i = j) := by simp
    rw [e]
    exact k _ (.bl _)) q
theorem v2_neSS {i j : Str} (q : R (.bl (!decide (i = j)))) : V2 B rNe (.str i) (.str j) R :=
  v2_same (fun M H v u r1 r2 Q k => by
    rw [r1.str_inv, r2.str_inv]
    refine ⟨rfl, ?_⟩
    have e : decide (V.str i = V.str j) = decide (i = j) := by simp
    rw [e]
    exact k _ (.bl _)) q
theorem v2_ixL {l : List D} {i : Int} {j : Nat} {d : D} (e : ixN l.length i = some j) (h : l[j]? = some d) (q : R d) : V2 B (rIxL B.W.K) (.lst l) (.int i) R := fun M H v u r1 r2 _ _ _ Q k => by
  cases r1 with
  | lst h1 rs =>
    rw [r2.int_inv]
    obtain ⟨x, hx, rx⟩ := rs.getD h
    refine ⟨_, _, i, x, rfl, rfl, .of (cut_some.mp h1).2, ?_, k x H d (fun _ _ => rfl) (Same.refl H) rx q⟩
    unfold atI
    rw [rs.length, e]
    exact hx
theorem v2_ixT {l : List D} {i : Int} {j : Nat} {d : D} (e : ixN l.length i = some j) (h : l[j]? = some d) (q : R d) : V2 B (rIxT B.W.K) (.tup l) (.int i) R := fun M H v u r1 r2 _ _ _ Q k => by
  cases r1 with
  | tup h1 rs =>
    rw [r2.int_inv]
    obtain ⟨x, hx, rx⟩ := rs.getD h
    refine ⟨_, _, i, x, rfl, rfl, same_t cut_same h1.sq, ?_, k x H d (fun _ _ => rfl) (Same.refl H) rx q⟩
    unfold atI
    rw [rs.length, e]
    exact hx
theorem v2_ixS {z : Str} {i : Int} {c : Nat} (hl : z.length ≤ 1000) (e : atI z.cps.toList i = some c) (q : R (.str ⟨#[c]⟩)) : V2 B rIxS (.str z) (.int i) R :=
  v2_same (fun M H v u r1 r2 Q k => ⟨z, i, c, r1.str_inv, r2.int_inv, Nat.le_of_lt (small1000 hl), e, k _ (.str _)⟩) q
theorem v2_addS {a b : Str} (hl : a.length + b.length ≤ 10000) (q : R (.str (a ++ b))) : V2 B (fun x y H Q => ∃ i j, x = .str i ∧ y = .str j ∧ i.length + j.length ≤ sizeLine ∧ Q (.str (i ++ j)) H) (.str a) (.str b) R :=
  v2_same (fun M H v u r1 r2 Q k => ⟨a, b, r1.str_inv, r2.str_inv, Nat.le_trans hl (by decide), k _ (.str _)⟩) q
theorem v2o_cat {xs ys : List D} {R : List D → Prop} (hl : xs.length + ys.length ≤ 10000) (q : R (xs ++ ys)) : V2O B rCat (.lst xs) (.lst ys) R := fun M H v u r1 r2 _ _ _ Q k => by
  cases r1 with
  | lst h1 rs =>
    cases r2 with
    | lst h2 rt =>
      refine ⟨_, _, _, _, rfl, rfl, (cut_some.mp h1).2, (cut_some.mp h2).2, ?_, fun p hp => k p _ _ _ hp rfl (rs.app rt) q⟩
      rw [rs.length, rt.length]
      exact Nat.le_trans hl (by decide)
theorem v2o_rep {xs : List D} {n : Int} {R : List D → Prop} (h0 : 0 ≤ n) (h1 : n ≤ 1000) (hl : xs.length ≤ 1) (q : R (List.replicate n.toNat xs).flatten) : V2O B rRep (.lst xs) (.int n) R := fun M H v u r1 r2 _ _ _ Q k => by
  cases r1 with
  | lst h2 rs =>
    refine ⟨_, n, _, rfl, r2.int_inv, (cut_some.mp h2).2, by omega, by omega, ?_, fun p hp => k p _ _ _ hp rfl (rs.rep _) q⟩
    rw [rs.length]
    have e : xs.length * n.toNat ≤ 1 * n.toNat := Nat.mul_le_mul_right _ hl
    refine Nat.le_trans e ?_
    rw [sizeLine_eq]
    omega
end
end K11

/-! K11C: tests, statements, targets, loops, comprehensions, defs and their calls. -/
namespace K11
open PySem L2

section
variable {B : Bs} {Γ : Ctx} {R R' : D → Prop} {te ta tb td ty tx : TE} {tt tu : TT} {P : Po} {t u : TS}

/-! ## tests -/
theorem wt_test {R : Bool → Prop} (h : WE B te Γ fun d => ∃ b, d = .bl b ∧ R b) : WT B (tTest te) Γ R := fun M σ H S Q q => h M σ H S _ fun v H1 d S1 e r ⟨b, hd, hr⟩ => by
  subst hd
  exact ⟨b, r.bl_inv, q b H1 S1 e hr⟩
theorem wt_B {R : Bool → Prop} (h : WE B te Γ fun d => ∃ b, d = .bl b ∧ R b) : WT B (tB te) Γ R := fun M σ H S Q q => h M σ H S _ fun v H1 d S1 e r ⟨b, hd, hr⟩ => by
  subst hd
  exact ⟨b, r.bl_inv, q b H1 S1 e hr⟩
theorem wt_and {R : Bool → Prop} (h : WT B tt Γ fun a => (a = true → WT B tu Γ R) ∧ (a = false → R false)) : WT B (tAnd tt tu) Γ R := fun M σ H S Q q => h M σ H S _ fun a H1 S1 e ⟨h1, h2⟩ => by
  cases a with
  | true => exact h1 rfl M σ H1 S1 Q fun b H2 S2 e2 hr => q b H2 S2 (e.trans e2) hr
  | false => exact q false H1 S1 e (h2 rfl)
theorem wt_or {R : Bool → Prop} (h : WT B tt Γ fun a => (a = true → R true) ∧ (a = false → WT B tu Γ R)) : WT B (tOr tt tu) Γ R := fun M σ H S Q q => h M σ H S _ fun a H1 S1 e ⟨h1, h2⟩ => by
  cases a with
  | true => exact q true H1 S1 e (h1 rfl)
  | false => exact h2 rfl M σ H1 S1 Q fun b H2 S2 e2 hr => q b H2 S2 (e.trans e2) hr
theorem wt_not {R : Bool → Prop} (h : WT B tt Γ fun a => R (!a)) : WT B (tNot tt) Γ R := fun M σ H S Q q => h M σ H S _ fun a H1 S1 e hr => q (!a) H1 S1 e hr
theorem wt_yes {R : Bool → Prop} (h : R true) : WT B tYes Γ R := fun M σ H S Q q => q true H S Fx.refl h
theorem we_andV (h : WE B ta Γ fun d => ∃ a, d = .bl a ∧ (a = true → WE B tb Γ R) ∧ (a = false → R (.bl false))) : WE B (tAndV ta tb) Γ R := fun M σ H S Q q => h M σ H S _ fun v H1 d S1 e r ⟨a, hd, h1, h2⟩ => by
  subst hd
  refine ⟨a, r.bl_inv, ?_⟩
  cases a with
  | true => exact h1 rfl M σ H1 S1 Q fun w H2 d2 S2 e2 r2 hr => q w H2 d2 S2 (e.trans e2) r2 hr
  | false => exact q _ H1 _ S1 e (.bl false) (h2 rfl)
theorem we_orV (h : WE B ta Γ fun d => ∃ a, d = .bl a ∧ (a = true → R (.bl true)) ∧ (a = false → WE B tb Γ R)) : WE B (tOrV ta tb) Γ R := fun M σ H S Q q => h M σ H S _ fun v H1 d S1 e r ⟨a, hd, h1, h2⟩ => by
  subst hd
  refine ⟨a, r.bl_inv, ?_⟩
  cases a with
  | true => exact q _ H1 _ S1 e (.bl true) (h1 rfl)
  | false => exact h2 rfl M σ H1 S1 Q fun w H2 d2 S2 e2 r2 hr => q w H2 d2 S2 (e.trans e2) r2 hr
theorem we_notV (h : WE B ta Γ fun d => ∃ a, d = .bl a ∧ R (.bl (!a))) : WE B (tNotV ta) Γ R := fun M σ H S Q q => h M σ H S _ fun v H1 d S1 e r ⟨a, hd, hr⟩ => by
  subst hd
  exact ⟨a, r.bl_inv, q _ H1 _ S1 e (.bl _) hr⟩
theorem we_if (h : WT B tt Γ fun a => (a = true → WE B ta Γ R) ∧ (a = false → WE B tb Γ R)) : WE B (tIf tt ta tb) Γ R := fun M σ H S Q q => h M σ H S _ fun a H1 S1 e ⟨h1, h2⟩ => by
  cases a with
  | true => exact h1 rfl M σ H1 S1 Q fun w H2 d2 S2 e2 r2 hr => q w H2 d2 S2 (e.trans e2) r2 hr
  | false => exact h2 rfl M σ H1 S1 Q fun w H2 d2 S2 e2 r2 hr => q w H2 d2 S2 (e.trans e2) r2 hr

/-! ## the state's changes -/
theorem getE_set {α : Type} {l : List α} {i j : Nat} {a b : α} (h : (l.set i a)[j]? = some b) : (i = j ∧ b = a ∧ i < l.length) ∨ (i ≠ j ∧ l[j]? = some b) := by
  by_cases e : i = j
  · subst e
    have hl : i < l.length := by
      have z := (List.getElem?_eq_some_iff.mp h).1
      simpa using z
    rw [List.getElem?_set_self hl] at h
    exact .inl ⟨rfl, (Option.some.inj h).symm, hl⟩
  · rw [List.getElem?_set_ne e] at h
    exact .inr ⟨e, h⟩
theorem Stt.put {M : Addr → Prop} {H : Hp} {σ : L2.St} (S : Stt B M H σ Γ) {i : Nat} {v : Option V} {e : Ent} (he : EntOk B M H v e) (hn : e.own = true → ∀ p, v = some (.ref p) → ∀ (j : Nat) f, Γ[j]? = some f → f.own = true → σ[j]? = some (some (.ref p)) → False) :
    Stt B M H (σ.set i v) (Γ.set i e) where
  pt := S.pt
  mp := S.mp
  kp := S.kp
  sub := S.sub
  new := S.new
  dom := S.dom
  tp := S.tp
  len := by rw [List.length_set, List.length_set, S.len]
  ent := fun j f h => by
    rcases getE_set h with ⟨z1, z2, z3⟩ | ⟨z1, z2⟩
    · subst z1 z2
      rw [List.getElem?_set_self (by rw [S.len]; exact z3)]
      exact he
    · rw [List.getElem?_set_ne z1]
      exact S.ent j f z2
  inj := fun j k f g p h1 h2 h3 h4 h5 h6 => by
    rcases getE_set h1 with ⟨a1, a2, a3⟩ | ⟨a1, a2⟩ <;> rcases getE_set h2 with ⟨b1, b2, b3⟩ | ⟨b1, b2⟩
    · exact a1.symm.trans b1
    · subst a1 a2
      rw [List.getElem?_set_self (by rw [S.len]; exact a3)] at h5
      rw [List.getElem?_set_ne b1] at h6
      exact (hn h3 p (Option.some.inj h5) k g b2 h4 h6).elim
    · subst b1 b2
      rw [List.getElem?_set_self (by rw [S.len]; exact b3)] at h6
      rw [List.getElem?_set_ne a1] at h5
      exact (hn h4 p (Option.some.inj h6) j f a2 h3 h5).elim
    · rw [List.getElem?_set_ne a1] at h5
      rw [List.getElem?_set_ne b1] at h6
      exact S.inj j k f g p a2 b2 h3 h4 h5 h6
theorem Stt.putD {M : Addr → Prop} {H : Hp} {σ : L2.St} (S : Stt B M H σ Γ) {i : Nat} {v : V} {d : D} (r : Rep B.W (cut M H) v d) : Stt B M H (σ.set i (some v)) (Γ.set i (.da d)) :=
  S.put ⟨v, rfl, r⟩ fun z => nomatch z
theorem Stt.putN {M : Addr → Prop} {H : Hp} {σ : L2.St} (S : Stt B M H σ Γ) {i : Nat} {v : Option V} : Stt B M H (σ.set i v) (Γ.set i .no) := S.put trivial fun z => nomatch z
theorem Stt.dropE {M : Addr → Prop} {H : Hp} {σ : L2.St} (S : Stt B M H σ Γ) {i : Nat} : Stt B M H σ (Γ.set i .no) where
  pt := S.pt
  mp := S.mp
  kp := S.kp
  sub := S.sub
  new := S.new
  dom := S.dom
  tp := S.tp
  len := by rw [List.length_set, S.len]
  ent := fun j f h => by
    rcases getE_set h with ⟨z1, z2, z3⟩ | ⟨z1, z2⟩
    · subst z2; exact trivial
    · exact S.ent j f z2
  inj := fun j k f g p h1 h2 h3 h4 h5 h6 => by
    rcases getE_set h1 with ⟨a1, a2, a3⟩ | ⟨a1, a2⟩
    · subst a2; cases h3
    · rcases getE_set h2 with ⟨b1, b2, b3⟩ | ⟨b1, b2⟩
      · subst b2; cases h4
      · exact S.inj j k f g p a2 b2 h3 h4 h5 h6
theorem cut_gain {M : Addr → Prop} {H : Hp} {p : Addr} (h : H p = none) {H' : Hp} (x : Ext M H H') : Same (cut M H) (cut (addM M p) H') := fun b o z => by
  obtain ⟨z1, z2⟩ := cut_some.mp z
  exact cut_some.mpr ⟨fun zz => zz.elim z1 (ne_of_none z2 h), x b o z1 z2⟩
/-- the new list at p becomes one's own -/
theorem Stt.own {M : Addr → Prop} {H H' : Hp} {σ : L2.St} (S0 : Stt B M H σ Γ) (S : Stt B M H' σ Γ) (x : Fx B.W.pot M H H') {p : Addr} {o : HO} (hp : H p = none) (hq : H' p = some o) (nt : ∀ xs, o ≠ .tup xs := by intro _ z; cases z) : Stt B (addM M p) H' σ Γ ∧ Own B (addM M p) p := by
  have h0 := S0.free0 hp
  have hM := S0.notM hp
  have np := S0.npot hp
  have sm := cut_gain hp x.ext
  have m0 : ¬ B.M0 p := fun z => hM (S0.sub p z)
  refine ⟨S.gain h0 hM hq np nt fun i e h => ?_, ⟨.inr rfl, np, h0, m0⟩⟩
  have q := S0.ent i e h
  have up : ∀ {a : Addr}, Own B M a → Own B (addM M p) a := fun o => ⟨.inl o.m, o.np, o.h0, o.m0⟩
  cases e with
  | no => exact trivial
  | da d => obtain ⟨v, e1, r⟩ := q; exact ⟨v, e1, r.mono sm⟩
  | ow l => obtain ⟨a, xs, e1, o, h1, r⟩ := q; exact ⟨a, xs, e1, up o, (x.own a o.m o.np).trans h1, r.mono sm⟩
  | owK l => obtain ⟨a, xs, e1, o, h1, r⟩ := q; exact ⟨a, xs, e1, up o, (x.own a o.m o.np).trans h1, r.mono sm⟩
  | owT l => obtain ⟨a, e1, o, h1⟩ := q; exact ⟨a, e1, up o, (x.own a o.m o.np).trans h1⟩
  | ins a0 fs => obtain ⟨a, dx, xs, e1, o, h1, r⟩ := q; exact ⟨a, dx, xs, e1, up o, (x.own a o.m o.np).trans h1, r.mono sm⟩
theorem Stt.putO {M : Addr → Prop} {H : Hp} {σ : L2.St} (S : Stt B M H σ Γ) {i : Nat} {p : Addr} {e : Ent} (he : EntOk B M H (some (.ref p)) e) (hn : ∀ (j : Nat) f, Γ[j]? = some f → f.own = true → σ[j]? = some (some (.ref p)) → False) :
    Stt B M H (σ.set i (some (.ref p))) (Γ.set i e) := S.put he fun _ q e2 => by
  cases e2
  exact hn
/-- one's own objects stand apart from what was not one's own -/
theorem Stt.apart {M : Addr → Prop} {H : Hp} {σ : L2.St} (S : Stt B M H σ Γ) {p : Addr} (hp : ¬ M p) : ∀ (j : Nat) f, Γ[j]? = some f → f.own = true → σ[j]? = some (some (.ref p)) → False := fun j f h1 h2 h3 => by
  have q := S.ent j f h1
  rw [h3] at q
  cases f with
  | no => cases h2
  | da d => cases h2
  | ow l => obtain ⟨a, xs, e1, o, _⟩ := q; cases e1; exact hp o.m
  | owK l => obtain ⟨a, xs, e1, o, _⟩ := q; cases e1; exact hp o.m
  | owT l => obtain ⟨a, e1, o, _⟩ := q; cases e1; exact hp o.m
  | ins a0 fs => obtain ⟨a, dx, xs, e1, o, _⟩ := q; cases e1; exact hp o.m
/-- an object of one's own is written -/
theorem Stt.mut {M : Addr → Prop} {H : Hp} {σ : L2.St} (S : Stt B M H σ Γ) {i : Nat} {e e' : Ent} {p : Addr} {o : HO} (hi : Γ[i]? = some e) (he : e.own = true) (hp : σ[i]? = some (some (.ref p))) (ow : Own B M p)
    (he' : EntOk B M (upd H p o) (some (.ref p)) e') (nt : ∀ xs, o ≠ .tup xs := by intro _ z; cases z) : Stt B M (upd H p o) σ (Γ.set i e') ∧ Same (cut M H) (cut M (upd H p o)) := by
  have hil : i < Γ.length := (List.getElem?_eq_some_iff.mp hi).1
  have sm : Same (cut M H) (cut M (upd H p o)) := cut_upd ow.m
  refine ⟨⟨?_, S.mp, ?_, S.sub, S.new, ?_, ?_, by rw [List.length_set, S.len], ?_, ?_⟩, sm⟩
  · obtain ⟨a, b, e, r⟩ := S.pt
    exact ⟨a, b, by rw [upd_ne ow.np.symm]; exact e, r⟩
  · intro b u n h
    have nb : b ≠ p := fun z => by rw [z, ow.h0] at h; cases h
    rw [upd_ne nb]
    exact S.kp b u n h
  · intro m hm
    by_cases z : m = p
    · rw [z, upd_same]; exact fun z => nomatch z
    · rw [upd_ne z]; exact S.dom m hm
  · intro m xs hm
    by_cases z : m = p
    · rw [z, upd_same]; exact fun z => nt xs (Option.some.inj z)
    · rw [upd_ne z]; exact S.tp m xs hm
  · intro j f h
    rcases getE_set h with ⟨z1, z2, z3⟩ | ⟨z1, z2⟩
    · subst z1 z2
      rw [hp]
      exact he'
    · have q := S.ent j f z2
      have ne : f.own = true → ∀ a, σ[j]?.join = some (.ref a) → a ≠ p := fun hf a ha z => by
        subst z
        have ha' : σ[j]? = some (some (.ref a)) := by
          cases zz : σ[j]? with
          | none => rw [zz] at ha; cases ha
          | some y => rw [zz] at ha; exact congrArg some ha
        exact z1 (S.inj i j e f a hi z2 he hf hp ha')
      cases f with
      | no => exact trivial
      | da d => obtain ⟨v, e1, r⟩ := q; exact ⟨v, e1, r.mono sm⟩
      | ow l => obtain ⟨a, xs, e1, o1, h1, r⟩ := q; exact ⟨a, xs, e1, o1, by rw [upd_ne (ne rfl a e1)]; exact h1, r.mono sm⟩
      | owK l => obtain ⟨a, xs, e1, o1, h1, r⟩ := q; exact ⟨a, xs, e1, o1, by rw [upd_ne (ne rfl a e1)]; exact h1, r.mono sm⟩
      | owT l => obtain ⟨a, e1, o1, h1⟩ := q; exact ⟨a, e1, o1, by rw [upd_ne (ne rfl a e1)]; exact h1⟩
      | ins a0 fs => obtain ⟨a, dx, xs, e1, o1, h1, r⟩ := q; exact ⟨a, dx, xs, e1, o1, by rw [upd_ne (ne rfl a e1)]; exact h1, r.mono sm⟩
  · intro j k f g q h1 h2 h3 h4 h5 h6
    rcases getE_set h1 with ⟨a1, a2, a3⟩ | ⟨a1, a2⟩ <;> rcases getE_set h2 with ⟨b1, b2, b3⟩ | ⟨b1, b2⟩
    · exact a1.symm.trans b1
    · subst a1
      exact S.inj _ _ e g q hi b2 he h4 h5 h6
    · subst b1
      exact S.inj _ _ f e q a2 hi h3 he h5 h6
    · exact S.inj j k f g q a2 b2 h3 h4 h5 h6
/-- an object of one's own is given away (it changes no more) -/
theorem Stt.give {M : Addr → Prop} {H : Hp} {σ : L2.St} (S : Stt B M H σ Γ) {i : Nat} {l : List D} (hi : Γ[i]? = some (.ow l)) : ∃ M', Stt B M' H σ (Γ.set i (.da (.lst l))) ∧ Same (cut M H) (cut M' H) := by
  obtain ⟨p, xs, e1, o, h1, r⟩ := S.ent i _ hi
  have hil : i < Γ.length := (List.getElem?_eq_some_iff.mp hi).1
  have e1' : σ[i]? = some (some (.ref p)) := by
    cases zz : σ[i]? with
    | none => rw [zz] at e1; cases e1
    | some y => rw [zz] at e1; exact congrArg some e1
  have sm : Same (cut M H) (cut (fun b => M b ∧ b ≠ p) H) := cut_sub fun b z => z.1
  refine ⟨fun b => M b ∧ b ≠ p, ⟨S.pt, ⟨S.mp, o.np.symm⟩, S.kp, fun m h => ⟨S.sub m h, fun z => o.m0 (z ▸ h)⟩, fun m h => S.new m h.1, fun m h => S.dom m h.1, fun m xs h => S.tp m xs h.1, by rw [List.length_set, S.len], ?_, ?_⟩, sm⟩
  · intro j f h
    rcases getE_set h with ⟨z1, z2, z3⟩ | ⟨z1, z2⟩
    · subst z1 z2
      rw [e1']
      exact ⟨_, rfl, .lst (cut_some.mpr ⟨fun z => z.2 rfl, h1⟩) (r.mono sm)⟩
    · have q := S.ent j f z2
      have up : f.own = true → ∀ {a : Addr}, σ[j]?.join = some (.ref a) → Own B M a → Own B (fun b => M b ∧ b ≠ p) a := fun hf {a} ha o2 => ⟨⟨o2.m, fun z => by
        subst z
        have ha' : σ[j]? = some (some (.ref a)) := by
          cases zz : σ[j]? with
          | none => rw [zz] at ha; cases ha
          | some y => rw [zz] at ha; exact congrArg some ha
        exact z1 (S.inj i j _ f a hi z2 rfl hf e1' ha')⟩, o2.np, o2.h0, o2.m0⟩
      cases f with
      | no => exact trivial
      | da d => obtain ⟨v, e1, r⟩ := q; exact ⟨v, e1, r.mono sm⟩
      | ow l => obtain ⟨a, xs, e1, o1, h1, r⟩ := q; exact ⟨a, xs, e1, up rfl e1 o1, h1, r.mono sm⟩
      | owK l => obtain ⟨a, xs, e1, o1, h1, r⟩ := q; exact ⟨a, xs, e1, up rfl e1 o1, h1, r.mono sm⟩
      | owT l => obtain ⟨a, e1, o1, h1⟩ := q; exact ⟨a, e1, up rfl e1 o1, h1⟩
      | ins a0 fs => obtain ⟨a, dx, xs, e1, o1, h1, r⟩ := q; exact ⟨a, dx, xs, e1, up rfl e1 o1, h1, r.mono sm⟩
  · intro j k f g q h1 h2 h3 h4 h5 h6
    rcases getE_set h1 with ⟨a1, a2, a3⟩ | ⟨a1, a2⟩
    · subst a2; cases h3
    · rcases getE_set h2 with ⟨b1, b2, b3⟩ | ⟨b1, b2⟩
      · subst b2; cases h4
      · exact S.inj j k f g q a2 b2 h3 h4 h5 h6
theorem join_some {α : Type} {l : List (Option α)} {i : Nat} {a : α} (h : l[i]?.join = some a) : l[i]? = some (some a) := by
  cases zz : l[i]? with
  | none => rw [zz] at h; cases h
  | some y => rw [zz] at h; exact congrArg some h

/-! ## targets -/
def WG (B : Bs) (g : TG) (d : D) (Γ : Ctx) (N : Ctx → Prop) : Prop :=
  ∀ M σ H v, Stt B M H σ Γ → Rep B.W (cut M H) v d → ∀ Q : L2.St → Hp → Prop, (∀ σ' Γ', Stt B M H σ' Γ' → N Γ' → Q σ' H) → g v σ H Q
theorem wg_name {i : Nat} {d : D} {N : Ctx → Prop} (q : N (Γ.set i (.da d))) : WG B (gName i) d Γ N := fun M σ H v S r Q k => k _ _ (S.putD r) q
theorem wg_tup2 {g1 g2 : TG} {a b : D} {N : Ctx → Prop} (h : WG B g1 a Γ fun Γ1 => WG B g2 b Γ1 N) : WG B (gTup B.W.K 2 (gCons g1 (gCons g2 gNil))) (.tup [a, b]) Γ N := fun M σ H v S r Q k => by
  cases r with
  | tup h1 rs =>
    cases rs with
    | cons ra rs =>
      cases rs with
      | cons rb rs =>
        cases rs
        exact ⟨_, _, rfl, same_t cut_same h1.sq, rfl, _, _, rfl, h M σ H _ S ra _ fun σ1 Γ1 S1 q1 => ⟨_, _, rfl, q1 M σ1 H _ S1 rb _ fun σ2 Γ2 S2 q2 => ⟨rfl, k σ2 Γ2 S2 q2⟩⟩⟩
theorem wg_tup3 {g1 g2 g3 : TG} {a b c : D} {N : Ctx → Prop} (h : WG B g1 a Γ fun Γ1 => WG B g2 b Γ1 fun Γ2 => WG B g3 c Γ2 N) : WG B (gTup B.W.K 3 (gCons g1 (gCons g2 (gCons g3 gNil)))) (.tup [a, b, c]) Γ N := fun M σ H v S r Q k => by
  cases r with
  | tup h1 rs =>
    cases rs with
    | cons ra rs =>
      cases rs with
      | cons rb rs =>
        cases rs with
        | cons rc rs =>
          cases rs
          exact ⟨_, _, rfl, same_t cut_same h1.sq, rfl, _, _, rfl, h M σ H _ S ra _ fun σ1 Γ1 S1 q1 => ⟨_, _, rfl, q1 M σ1 H _ S1 rb _ fun σ2 Γ2 S2 q2 => ⟨_, _, rfl, q2 M σ2 H _ S2 rc _ fun σ3 Γ3 S3 q3 => ⟨rfl, k σ3 Γ3 S3 q3⟩⟩⟩⟩

/-! ## statements -/
theorem WS.imp {P' : Po} (h : WS B t Γ P) (k : (∀ Γ, P.nx Γ → P'.nx Γ) ∧ (∀ d, P.rt d → P'.rt d) ∧ (∀ d, P.ro d → P'.ro d) ∧ (∀ Γ, P.bk Γ → P'.bk Γ) ∧ ∀ Γ, P.ct Γ → P'.ct Γ) : WS B t Γ P' := fun M σ H S E e =>
  h M σ H S E ⟨fun M σ H Γ S x q => e.nx M σ H Γ S x (k.1 Γ q), fun M σ H Γ v d S r q => e.rt M σ H Γ v d S r (k.2.1 d q), fun M σ H Γ p xs l S o h r q => e.ro M σ H Γ p xs l S o h r (k.2.2.1 l q),
    fun M σ H Γ S x q => e.bk M σ H Γ S x (k.2.2.2.1 Γ q), fun M σ H Γ S x q => e.ct M σ H Γ S x (k.2.2.2.2 Γ q)⟩
theorem EndsOk.later {M M1 : Addr → Prop} {H H1 : Hp} {E : Ends} (e : EndsOk B M H P E) (s : Same (cut M H) (cut M1 H1)) : EndsOk B M1 H1 P E :=
  ⟨fun M σ H Γ S x q => e.nx M σ H Γ S (s.trans x) q, e.rt, e.ro, fun M σ H Γ S x q => e.bk M σ H Γ S (s.trans x) q, fun M σ H Γ S x q => e.ct M σ H Γ S (s.trans x) q⟩
theorem ws_next (q : P.nx Γ) : WS B tNext Γ P := fun M σ H S E e => e.nx M σ H Γ S (Same.refl _) q
theorem ws_break (q : P.bk Γ) : WS B tBreak Γ P := fun M σ H S E e => e.bk M σ H Γ S (Same.refl _) q
theorem ws_seq (h : WS B t Γ { P with nx := fun Γ' => WS B u Γ' P }) : WS B (tSeq t u) Γ P := fun M σ H S E e =>
  h M σ H S { E with nx := u E } ⟨fun M1 σ1 H1 Γ1 S1 s q => q M1 σ1 H1 S1 E (e.later s), e.rt, e.ro, e.bk, e.ct⟩
theorem ws_asg {g : TG} (h : WE B te Γ fun d => WG B g d Γ P.nx) : WS B (tAsg te g) Γ P := fun M σ H S E e => h M σ H S _ fun v H1 d S1 x r q =>
  q M σ H1 v S1 r _ fun σ2 Γ2 S2 n => e.nx M σ2 H1 Γ2 S2 x.cut n
/-- x = a new list, one's own -/
theorem ws_own {i : Nat} (h : WO B te Γ fun l => P.nx (Γ.set i (.ow l))) : WS B (tAsg te (gName i)) Γ P := fun M σ H S E e => h M σ H S _ fun p xs H1 l S1 x hp hq r q => by
  obtain ⟨S2, o⟩ := S.own S1 x hp hq
  exact e.nx _ _ H1 _ (S2.putO (e := .ow l) ⟨p, xs, rfl, o, hq, r⟩ fun j f h1 h2 h3 => S.apart (S.notM hp) j f h1 h2 h3) (cut_gain hp x.ext) q
theorem ws_if (h : WT B tt Γ fun a => (a = true → WS B t Γ P) ∧ (a = false → WS B u Γ P)) : WS B (tIfS tt t u) Γ P := fun M σ H S E e => h M σ H S _ fun a H1 S1 x ⟨h1, h2⟩ => by
  cases a with
  | true => exact h1 rfl M σ H1 S1 E (e.later x.cut)
  | false => exact h2 rfl M σ H1 S1 E (e.later x.cut)
theorem ws_ret (h : WE B te Γ P.rt) : WS B (tRet te) Γ P := fun M σ H S E e => h M σ H S _ fun v H1 d S1 x r q => e.rt M σ H1 Γ v d S1 r q
theorem ws_retO (h : WO B te Γ P.ro) : WS B (tRet te) Γ P := fun M σ H S E e => h M σ H S _ fun p xs H1 l S1 x hp hq r q => by
  obtain ⟨S2, o⟩ := S.own S1 x hp hq
  exact e.ro _ σ H1 Γ p xs l S2 o hq r q
theorem ws_retV {i : Nat} {l : List D} (h : Γ[i]? = some (.ow l)) (q : P.ro l) : WS B (tRet (tVar i)) Γ P := fun M σ H S E e => by
  obtain ⟨p, xs, e1, o, h1, r⟩ := S.ent i _ h
  exact ⟨_, join_some e1, e.ro _ σ H Γ p xs l S o h1 r q⟩
theorem ws_drop (h : WE B te Γ fun _ => P.nx Γ) : WS B (tDrop te) Γ P := fun M σ H S E e => h M σ H S _ fun v H1 d S1 x r q => e.nx M σ H1 Γ S1 x.cut q
/-- from here on a list of one's own is data -/
theorem ws_give {i : Nat} {l : List D} (h : Γ[i]? = some (.ow l)) (k : WS B t (Γ.set i (.da (.lst l))) P) : WS B t Γ P := fun M σ H S E e => by
  obtain ⟨M1, S1, s⟩ := S.give h
  exact k M1 σ H S1 E (e.later s)
theorem ws_append {i : Nat} {l : List D} (h : Γ[i]? = some (.ow l)) (k : WE B te Γ fun d => l.length ≤ 5000 ∧ P.nx (Γ.set i (.ow (l ++ [d])))) : WS B (tDrop (tBM B.W.K "list" rAppend (tVar i) (tCons te tNil))) Γ P := fun M σ H S E e => by
  obtain ⟨p, xs, e1, o, h1, r⟩ := S.ent i _ h
  refine ⟨_, join_some e1, .inl ⟨rfl, _, .of h1⟩, k M σ H S _ fun v H1 d S1 x rd ⟨hl, q⟩ => ?_⟩
  have h2 := (x.own p o.m o.np).trans h1
  obtain ⟨S2, s2⟩ := S1.mut (o := .lst (xs ++ [v])) (e' := .ow (l ++ [d])) h rfl (join_some e1) o ⟨p, _, rfl, o, upd_same, ((r.mono x.cut).app (.one rd)).mono (cut_upd o.m)⟩
  exact ⟨p, xs, v, rfl, rfl, h2, by rw [r.length]; exact Nat.lt_of_le_of_lt hl (by decide), e.nx M σ _ _ S2 (x.cut.trans s2) q⟩
/-- target = own.pop() -/
theorem ws_pop {i : Nat} {l : List D} {d : D} {g : TG} (h : Γ[i]? = some (.ow l)) (hl : l[l.length - 1]? = some d) (k : WG B g d (Γ.set i (.ow l.dropLast)) P.nx) : WS B (tAsg (tBM0 B.W.K "list" rPop (tVar i)) g) Γ P := fun M σ H S E e => by
  obtain ⟨p, xs, e1, o, h1, r⟩ := S.ent i _ h
  obtain ⟨y, hy, ry⟩ := r.getD hl
  obtain ⟨S2, s2⟩ := S.mut (o := .lst xs.dropLast) (e' := .ow l.dropLast) h rfl (join_some e1) o ⟨p, _, rfl, o, upd_same, r.dropLast.mono (cut_upd o.m)⟩
  refine ⟨_, join_some e1, .inl ⟨rfl, _, .of h1⟩, p, xs, y, rfl, rfl, h1, by rw [r.length]; exact hy, ?_⟩
  exact k M σ _ y S2 (ry.mono s2) _ fun σ3 Γ3 S3 q => e.nx M σ3 _ Γ3 S3 s2 q
theorem ws_clear {i : Nat} {l : List D} (h : Γ[i]? = some (.ow l)) (k : P.nx (Γ.set i (.ow []))) : WS B (tDrop (tBM0 B.W.K "list" rClear (tVar i))) Γ P := fun M σ H S E e => by
  obtain ⟨p, xs, e1, o, h1, r⟩ := S.ent i _ h
  obtain ⟨S2, s2⟩ := S.mut (o := .lst []) (e' := .ow []) h rfl (join_some e1) o ⟨p, _, rfl, o, upd_same, .nil⟩
  exact ⟨_, join_some e1, .inl ⟨rfl, _, .of h1⟩, p, xs, rfl, rfl, h1, e.nx M σ _ _ S2 s2 k⟩
theorem ws_extend {i : Nat} {l : List D} (h : Γ[i]? = some (.ow l)) (k : WE B te Γ fun d => ∃ l', d = .lst l' ∧ l.length + l'.length ≤ 5000 ∧ P.nx (Γ.set i (.ow (l ++ l')))) : WS B (tDrop (tBM B.W.K "list" rExtend (tVar i) (tCons te tNil))) Γ P := fun M σ H S E e => by
  obtain ⟨p, xs, e1, o, h1, r⟩ := S.ent i _ h
  refine ⟨_, join_some e1, .inl ⟨rfl, _, .of h1⟩, k M σ H S _ fun v H1 d S1 x rd ⟨l', ed, hl, q⟩ => ?_⟩
  subst ed
  have h2 := (x.own p o.m o.np).trans h1
  cases rd with
  | lst hb rb =>
    rename_i b ys
    obtain ⟨S2, s2⟩ := S1.mut (o := .lst (xs ++ ys)) (e' := .ow (l ++ l')) h rfl (join_some e1) o ⟨p, _, rfl, o, upd_same, ((r.mono x.cut).app rb).mono (cut_upd o.m)⟩
    exact ⟨p, b, xs, ys, rfl, rfl, h2, (cut_some.mp hb).2, by rw [r.length, rb.length]; exact Nat.le_trans hl (by decide), e.nx M σ _ _ S2 (x.cut.trans s2) q⟩
end
end K11

/-! K11D: loops, comprehensions, defs and their calls. -/
namespace K11
open PySem L2

section
variable {B : Bs} {Γ : Ctx} {R R' : D → Prop} {te ta tb td ty tx : TE} {tt tu : TT} {P : Po} {t u : TS}

/-! ## what is walked -/
structure Src (B : Bs) (M : Addr → Prop) (H : Hp) (J : It) (ds : List D) (G : Hp → Prop) (Y : Nat → Hp → V → Hp → Prop) : Prop where
  walk : Walk J ds.length G Y
  stays : ∀ M1 H1, Same (cut M H) (cut M1 H1) → G H1
  gives : ∀ (i : Nat) M1 H1 x H2, i < ds.length → Same (cut M H) (cut M1 H1) → (∀ m, M1 m → H1 m ≠ none) → Y i H1 x H2 → (H2 = H1 ∨ ∃ T o, H1 T = none ∧ H2 = upd H1 T o) ∧ ∃ d, ds[i]? = some d ∧ Rep B.W (cut M1 H2) x d
def WI (B : Bs) (wi : TI) (Γ : Ctx) (L : List D → Prop) : Prop :=
  ∀ M σ H, Stt B M H σ Γ → ∀ Q : It → Hp → Prop, (∀ J H' ds G Y, Stt B M H' σ Γ → Fx B.W.pot M H H' → L ds → Src B M H' J ds G Y → Q J H') → wi σ H Q
theorem src_list {M : Addr → Prop} {H : Hp} {a : Addr} {xs : List V} {ds : List D} (h : cut M H a = some (.lst xs)) (r : Reps B.W (cut M H) xs ds) :
    Src B M H (Itl B.W.K a) ds (fun H => SqL B.W.K H a xs) (YAt xs) := by
  refine ⟨by rw [← r.length]; exact walk_list, fun M1 H1 s => .of (cut_same _ _ (s _ _ h)), fun i M1 H1 x H2 hi s dm y => ?_⟩
  obtain ⟨e, y⟩ := y
  subst e
  obtain ⟨d, h1, h2⟩ := r.get y
  exact ⟨.inl rfl, d, h1, h2.mono s⟩
theorem src_tup {M : Addr → Prop} {H : Hp} {a : Addr} {xs : List V} {ds : List D} (h : SqT B.W.K (cut M H) a xs) (r : Reps B.W (cut M H) xs ds) :
    Src B M H (Itt B.W.K a) ds (fun H => SqT B.W.K H a xs) (YAt xs) := by
  refine ⟨by rw [← r.length]; exact walk_tup, fun M1 H1 s => same_t cut_same (same_t s h), fun i M1 H1 x H2 hi s dm y => ?_⟩
  obtain ⟨e, y⟩ := y
  subst e
  obtain ⟨d, h1, h2⟩ := r.get y
  exact ⟨.inl rfl, d, h1, h2.mono s⟩
theorem wi_list {tl : TE} {L : List D → Prop} (h : WE B tl Γ fun d => ∃ ds, d = .lst ds ∧ L ds) : WI B (iList B.W.K tl) Γ L := fun M σ H S Q q => h M σ H S _ fun v H1 d S1 e r ⟨ds, hd, hl⟩ => by
  subst hd
  cases r with
  | lst h1 rs => exact ⟨_, rfl, ⟨_, .of (cut_some.mp h1).2⟩, q _ H1 ds _ _ S1 e hl (src_list h1 rs)⟩
theorem wi_tup {tl : TE} {L : List D → Prop} (h : WE B tl Γ fun d => ∃ ds, d = .tup ds ∧ L ds) : WI B (iTup B.W.K tl) Γ L := fun M σ H S Q q => h M σ H S _ fun v H1 d S1 e r ⟨ds, hd, hl⟩ => by
  subst hd
  cases r with
  | tup h1 rs => exact ⟨_, rfl, ⟨_, same_t cut_same h1.sq⟩, q _ H1 ds _ _ S1 e hl (src_tup h1.sq rs)⟩
def intsD (lo : Int) (n : Nat) : List D := (List.range n).map fun i => .int (lo + (i : Nat))
theorem intsD_len (lo : Int) (n : Nat) : (intsD lo n).length = n := by unfold intsD; simp
theorem intsD_get {lo : Int} {n i : Nat} (h : i < n) : (intsD lo n)[i]? = some (.int (lo + (i : Nat))) := by
  unfold intsD
  simp [List.getElem?_map, h]
theorem src_range {M : Addr → Prop} {H : Hp} {lo : Int} {n : Nat} : Src B M H (Itr lo n) (intsD lo n) (fun _ => True) (YFn fun i => .int (lo + i)) := by
  refine ⟨by rw [intsD_len]; exact walk_range, fun _ _ _ => trivial, fun i M1 H1 x H2 hi s dm y => ?_⟩
  obtain ⟨e, y⟩ := y
  subst e y
  rw [intsD_len] at hi
  exact ⟨.inl rfl, _, intsD_get hi, .int _⟩
theorem wi_range1 {ta : TA} {L : List D → Prop} (h : WA B ta Γ fun ds => ∃ n : Int, ds = [.int n] ∧ n ≤ 10000 ∧ 0 ≤ n ∧ L (intsD 0 n.toNat)) : WI B (iRng1 ta) Γ L := fun M σ H S Q q => h M σ H S _ fun vs H1 d S1 e r ⟨n, hd, hl, h0, q1⟩ => by
  subst hd
  cases r with
  | cons r1 r2 =>
    cases r2
    exact ⟨n, by rw [r1.int_inv], by omega, by omega, q _ H1 _ _ _ S1 e q1 src_range⟩
theorem src_pair {M : Addr → Prop} {H : Hp} {J : It} {n : Nat} {G : Hp → Prop} {xs ys : Nat → Option V} {ds : List D} (w : Walk J n G (YPair xs ys)) (hn : ds.length = n) (st : ∀ M1 H1, Same (cut M H) (cut M1 H1) → G H1)
    (g : ∀ (i : Nat) x y, i < n → xs i = some x → ys i = some y → ∃ a b, ds[i]? = some (.tup [a, b]) ∧ Rep B.W (cut M H) x a ∧ Rep B.W (cut M H) y b) : Src B M H J ds G (YPair xs ys) := by
  refine ⟨by rw [hn]; exact w, st, fun i M1 H1 x H2 hi s dm y => ?_⟩
  obtain ⟨T, x1, y1, e1, hT, e2, h1, h2⟩ := y
  subst e1 e2
  obtain ⟨a, b, h3, r1, r2⟩ := g i x1 y1 (hn ▸ hi) h1 h2
  have sm : Same (cut M1 H1) (cut M1 (upd H1 T (.tup [x1, y1]))) := cut_alloc' hT
  exact ⟨.inr ⟨T, _, hT, rfl⟩, _, h3, .tup (.inl (cut_some.mpr ⟨fun z => dm T z hT, upd_same⟩)) (.cons ((r1.mono s).mono sm) (.cons ((r2.mono s).mono sm) .nil))⟩
def enumD (ds : List D) : List D := (List.range ds.length).zipWith (fun i d => .tup [.int (i : Nat), d]) ds
theorem enum_len (ds : List D) : (enumD ds).length = ds.length := by unfold enumD; simp
theorem enum_get {ds : List D} {i : Nat} {d : D} (h : ds[i]? = some d) : (enumD ds)[i]? = some (.tup [.int (i : Nat), d]) := by
  unfold enumD
  have hi : i < ds.length := (List.getElem?_eq_some_iff.mp h).1
  rw [List.getElem?_zipWith, h, List.getElem?_range hi]
theorem wi_zip {ta : TA} {L : List D → Prop} (h : WA B ta Γ fun ds => ∃ xs ys, ds = [.lst xs, .lst ys] ∧ L (xs.zipWith (fun a b => .tup [a, b]) ys)) : WI B (iZip B.W.K ta) Γ L := fun M σ H S Q q => h M σ H S _ fun vs H1 d S1 e r ⟨xs, ys, hd, hl⟩ => by
  subst hd
  cases r with
  | cons r1 r2 =>
    cases r2 with
    | cons r2 r3 =>
      cases r3
      cases r1 with
      | lst h1 rs =>
        cases r2 with
        | lst h2 rt =>
          refine ⟨_, _, _, _, rfl, .of (cut_some.mp h1).2, .of (cut_some.mp h2).2, q _ H1 _ _ _ S1 e hl (src_pair (walk_zip rfl) (by rw [List.length_zipWith, rs.length, rt.length]) (fun M1 H2 s => ⟨.of (cut_same _ _ (s _ _ h1)), .of (cut_same _ _ (s _ _ h2))⟩) fun i x y hi e1 e2 => ?_)⟩
          obtain ⟨a, g1, k1⟩ := rs.get e1
          obtain ⟨b, g2, k2⟩ := rt.get e2
          exact ⟨a, b, by rw [List.getElem?_zipWith, g1, g2], k1, k2⟩
theorem wi_enumL {ta : TA} {L : List D → Prop} (h : WA B ta Γ fun ds => ∃ xs, ds = [.lst xs] ∧ L (enumD xs)) : WI B (iEnum B.W.K ta) Γ L := fun M σ H S Q q => h M σ H S _ fun vs H1 d S1 e r ⟨xs, hd, hl⟩ => by
  subst hd
  cases r with
  | cons r1 r2 =>
    cases r2
    cases r1 with
    | lst h1 rs =>
      refine ⟨_, _, rfl, .of (cut_some.mp h1).2, q _ H1 _ _ _ S1 e hl (src_pair walk_enum (by rw [enum_len, rs.length]) (fun M1 H2 s => .of (cut_same _ _ (s _ _ h1))) fun i x y hi e1 e2 => ?_)⟩
      obtain ⟨b, g2, k2⟩ := rs.get e2
      obtain rfl : V.int (i : Nat) = x := Option.some.inj e1
      exact ⟨_, b, enum_get g2, .int _, k2⟩
theorem src_str {M : Addr → Prop} {H : Hp} {z : Str} : Src B M H (Its z) (z.cps.toList.map fun c => D.str ⟨#[c]⟩) (fun _ => True) (fun i H v H' => H' = H ∧ ∃ c, z.cps[i]? = some c ∧ v = .str ⟨#[c]⟩) := by
  refine ⟨by rw [List.length_map, Array.length_toList]; exact walk_str, fun _ _ _ => trivial, fun i M1 H1 x H2 hi s dm y => ?_⟩
  obtain ⟨e, c, hc, y⟩ := y
  subst e y
  exact ⟨.inl rfl, _, by rw [List.getElem?_map, Array.getElem?_toList, hc]; rfl, .str _⟩
theorem wi_str {L : List D → Prop} (h : WE B te Γ fun d => ∃ z, d = .str z ∧ L (z.cps.toList.map fun c => D.str ⟨#[c]⟩)) : WI B (iStr te) Γ L := fun M σ H S Q q => h M σ H S _ fun v H1 d S1 e r ⟨z, hd, hl⟩ => by
  subst hd
  exact ⟨z, r.str_inv, q _ H1 _ _ _ S1 e hl src_str⟩

/-! ## for -/
theorem ws_for {wi : TI} {g : TG} {tb : TS} (h : WI B wi Γ fun ds => ∃ I : Nat → Ctx → Prop, I 0 Γ ∧
    (∀ i d Γ1, ds[i]? = some d → I i Γ1 → WG B g d Γ1 fun Γ2 => WS B tb Γ2 { P with nx := I (i + 1), ct := I (i + 1), bk := P.nx }) ∧ ∀ Γ1, I ds.length Γ1 → P.nx Γ1) : WS B (tFor wi g tb) Γ P := by
  intro M σ H S E e
  refine h M σ H S _ fun J H1 ds G Y S1 x ⟨I, i0, step, done⟩ sr => ?_
  refine for_it sr.walk (fun i σ' H' => ∃ M' Γ', Stt B M' H' σ' Γ' ∧ Same (cut M H1) (cut M' H') ∧ I i Γ') ⟨M, Γ, S1, Same.refl _, i0⟩ (fun i σ' H' _ ⟨M', Γ', S', s, _⟩ => sr.stays M' H' s) ?_ ?_
  · rintro i v σ' H' H2 hi ⟨M', Γ', S', s, hI⟩ y
    obtain ⟨hH, d, hd, rd⟩ := sr.gives i M' H' v H2 hi s S'.dom y
    have S2 : Stt B M' H2 σ' Γ' ∧ Same (cut M' H') (cut M' H2) := by
      rcases hH with rfl | ⟨T, o, hT, rfl⟩
      · exact ⟨S', Same.refl _⟩
      · exact ⟨S'.alloc hT, cut_alloc' hT⟩
    refine step i d Γ' hd hI M' σ' H2 v S2.1 rd _ fun σ3 Γ3 S3 w => ?_
    refine w M' σ3 H2 S3 _ ⟨fun M4 σ4 H4 Γ4 S4 s4 q => ⟨M4, Γ4, S4, (s.trans S2.2).trans s4, q⟩, e.rt, e.ro, fun M4 σ4 H4 Γ4 S4 s4 q => e.nx M4 σ4 H4 Γ4 S4 (x.cut.trans ((s.trans S2.2).trans s4)) q, fun M4 σ4 H4 Γ4 S4 s4 q => ⟨M4, Γ4, S4, (s.trans S2.2).trans s4, q⟩⟩
  · rintro σ' H' ⟨M', Γ', S', s, hI⟩
    exact e.nx M' σ' H' Γ' S' (x.cut.trans s) (done Γ' hI)

/-! ## while -/
theorem ws_while {c : TT} {tb : TS} (I : Nat → Ctx → Prop) (n : Nat) (i0 : I n Γ)
    (step : ∀ n Γ1, I n Γ1 → WT B c Γ1 fun b => (b = true → WS B tb Γ1 { P with nx := fun Γ2 => ∃ m, m < n ∧ I m Γ2, ct := fun Γ2 => ∃ m, m < n ∧ I m Γ2, bk := P.nx }) ∧ (b = false → P.nx Γ1)) : WS B (tWhile c tb) Γ P := by
  intro M σ H S E e
  refine ⟨fun n σ' H' => ∃ M' Γ', Stt B M' H' σ' Γ' ∧ Same (cut M H) (cut M' H') ∧ I n Γ', ⟨n, M, Γ, S, Same.refl _, i0⟩, ?_⟩
  rintro n σ' H' ⟨M', Γ', S', s, hI⟩
  refine step n Γ' hI M' σ' H' S' _ fun b H2 S2 x2 ⟨q1, q2⟩ => ?_
  cases b with
  | true =>
    rw [if_pos rfl]
    refine ⟨fun σ3 H3 => ∃ m, m < n ∧ ∃ M3 Γ3, Stt B M3 H3 σ3 Γ3 ∧ Same (cut M H) (cut M3 H3) ∧ I m Γ3, fun σ3 H3 ⟨m, hm, z⟩ => ⟨m, hm, z⟩, ?_⟩
    exact q1 rfl M' σ' H2 S2 _ ⟨fun M4 σ4 H4 Γ4 S4 s4 ⟨m, hm, q⟩ => ⟨m, hm, M4, Γ4, S4, (s.trans x2.cut).trans s4, q⟩, e.rt, e.ro, fun M4 σ4 H4 Γ4 S4 s4 q => e.nx M4 σ4 H4 Γ4 S4 ((s.trans x2.cut).trans s4) q,
      fun M4 σ4 H4 Γ4 S4 s4 ⟨m, hm, q⟩ => ⟨m, hm, M4, Γ4, S4, (s.trans x2.cut).trans s4, q⟩⟩
  | false =>
    rw [if_neg Bool.false_ne_true]
    exact e.nx M' σ' H2 Γ' S2 (s.trans x2.cut) (q2 rfl)

/-! ## comprehensions -/
def wipeC (Γ : Ctx) : List Nat → Ctx
  | [] => Γ
  | v :: vs => (wipeC Γ vs).set v .no
theorem Stt.wipe {M : Addr → Prop} {H : Hp} {σ : L2.St} (S : Stt B M H σ Γ) : ∀ vs : List Nat, Stt B M H (L2.wipe σ vs) (wipeC Γ vs)
  | [] => S
  | v :: vs => (Stt.wipe S vs).putN
/-- the target stores to the block's own names alone -/
def GOnly (g : TG) (vs : List Nat) : Prop := ∀ v σ H Q, g v σ H Q → g v σ H fun σ' H' => L2.wipe σ' vs = L2.wipe σ vs ∧ Q σ' H'
def GsOnly (g : TGs) (vs : List Nat) : Prop := ∀ v σ H Q, g v σ H Q → g v σ H fun σ' H' => L2.wipe σ' vs = L2.wipe σ vs ∧ Q σ' H'
theorem wipe_set {σ : L2.St} {i : Nat} {v : Option V} : ∀ {vs : List Nat}, i ∈ vs → L2.wipe (σ.set i v) vs = L2.wipe σ vs
  | [], h => nomatch h
  | j :: vs, h => by
    unfold L2.wipe
    by_cases e : i = j
    · subst e
      have z : ∀ (ws : List Nat), (L2.wipe (σ.set i v) ws).set i none = (L2.wipe σ ws).set i none := by
        intro ws
        induction ws with
        | nil => simp [L2.wipe, List.set_set]
        | cons k ws ih =>
          unfold L2.wipe
          by_cases ek : k = i
          · subst ek; rw [ih]
          · rw [List.set_comm _ _ ek, ih, List.set_comm _ _ (Ne.symm ek)]
      exact z vs
    · rcases List.mem_cons.mp h with q | q
      · exact absurd q e
      · rw [wipe_set q]
theorem wipe_sub {σ : L2.St} {vs : List Nat} : ∀ {ws : List Nat}, (∀ w ∈ ws, w ∈ vs) → L2.wipe (L2.wipe σ ws) vs = L2.wipe σ vs
  | [], _ => rfl
  | w :: ws, h => by
    show L2.wipe ((L2.wipe σ ws).set w none) vs = _
    rw [wipe_set (h w List.mem_cons_self), wipe_sub fun x hx => h x (List.mem_cons_of_mem _ hx)]
theorem wipe_wipe {σ : L2.St} {vs : List Nat} : L2.wipe (L2.wipe σ vs) vs = L2.wipe σ vs := wipe_sub fun _ h => h
/-- an object of M that no slot owns is written -/
theorem Stt.touch {M : Addr → Prop} {H : Hp} {σ : L2.St} (S : Stt B M H σ Γ) {A : Addr} {o : HO} (mA : M A) (np : A ≠ B.W.pot) (h0 : B.H0 A = none) (na : ∀ (j : Nat) f, Γ[j]? = some f → f.own = true → σ[j]? = some (some (.ref A)) → False) (nt : ∀ xs, o ≠ .tup xs := by intro _ z; cases z) :
    Stt B M (upd H A o) σ Γ := by
  have sm : Same (cut M H) (cut M (upd H A o)) := cut_upd mA
  refine ⟨?_, S.mp, ?_, S.sub, S.new, ?_, ?_, S.len, ?_, S.inj⟩
  · obtain ⟨a, b, e, r⟩ := S.pt
    exact ⟨a, b, by rw [upd_ne np.symm]; exact e, r⟩
  · intro b u n h
    have nb : b ≠ A := fun z => by rw [z, h0] at h; cases h
    rw [upd_ne nb]
    exact S.kp b u n h
  · intro m hm
    by_cases z : m = A
    · rw [z, upd_same]; exact fun z => nomatch z
    · rw [upd_ne z]; exact S.dom m hm
  · intro m xs hm
    by_cases z : m = A
    · rw [z, upd_same]; exact fun z => nt xs (Option.some.inj z)
    · rw [upd_ne z]; exact S.tp m xs hm
  · intro j f h
    have q := S.ent j f h
    have ne : f.own = true → ∀ a, σ[j]?.join = some (.ref a) → a ≠ A := fun hf a ha z => by
      subst z
      exact na j f h hf (join_some ha)
    cases f with
    | no => exact trivial
    | da d => obtain ⟨v, e1, r⟩ := q; exact ⟨v, e1, r.mono sm⟩
    | ow l => obtain ⟨a, xs, e1, o1, h1, r⟩ := q; exact ⟨a, xs, e1, o1, by rw [upd_ne (ne rfl a e1)]; exact h1, r.mono sm⟩
    | owK l => obtain ⟨a, xs, e1, o1, h1, r⟩ := q; exact ⟨a, xs, e1, o1, by rw [upd_ne (ne rfl a e1)]; exact h1, r.mono sm⟩
    | owT l => obtain ⟨a, e1, o1, h1⟩ := q; exact ⟨a, e1, o1, by rw [upd_ne (ne rfl a e1)]; exact h1⟩
    | ins a0 fs => obtain ⟨a, dx, xs, e1, o1, h1, r⟩ := q; exact ⟨a, dx, xs, e1, o1, by rw [upd_ne (ne rfl a e1)]; exact h1, r.mono sm⟩
theorem go_name {i : Nat} {vs : List Nat} (h : i ∈ vs) : GOnly (gName i) vs := fun v σ H Q q => ⟨wipe_set h, q⟩
theorem gos_nil {vs : List Nat} : GsOnly gNil vs := fun v σ H Q q => ⟨q.1, rfl, q.2⟩
theorem gos_cons {g : TG} {gs : TGs} {vs : List Nat} (mono : ∀ v σ H (Q Q' : L2.St → Hp → Prop), (∀ s h, Q s h → Q' s h) → g v σ H Q → g v σ H Q') (monos : ∀ v σ H (Q Q' : L2.St → Hp → Prop), (∀ s h, Q s h → Q' s h) → gs v σ H Q → gs v σ H Q')
    (h1 : GOnly g vs) (h2 : GsOnly gs vs) : GsOnly (gCons g gs) vs := fun v σ H Q q => by
  obtain ⟨a, r, e, q⟩ := q
  exact ⟨a, r, e, mono _ _ _ _ _ (fun s h ⟨w1, z⟩ => monos _ _ _ _ _ (fun s' h' ⟨w2, z'⟩ => ⟨w2.trans w1, z'⟩) (h2 _ _ _ _ z)) (h1 _ _ _ _ q)⟩
theorem go_tup {K : PySem.W.Frag} {n : Nat} {gs : TGs} {vs : List Nat} (h : GsOnly gs vs) : GOnly (gTup K n gs) vs := fun v σ H Q ⟨a, xs, e1, e2, e3, q⟩ => ⟨a, xs, e1, e2, e3, h _ _ _ _ q⟩
theorem go_tup2 {K : PySem.W.Frag} {i j : Nat} {vs : List Nat} (h1 : i ∈ vs) (h2 : j ∈ vs) : GOnly (gTup K 2 (gCons (gName i) (gCons (gName j) gNil))) vs :=
  go_tup (gos_cons (fun _ _ _ _ _ k q => k _ _ q) (fun _ _ _ _ _ k ⟨a, r, e1, e2, q⟩ => ⟨a, r, e1, e2, k _ _ q⟩) (go_name h1) (gos_cons (fun _ _ _ _ _ k q => k _ _ q) (fun _ _ _ _ _ k ⟨e2, q⟩ => ⟨e2, k _ _ q⟩) (go_name h2) gos_nil))

theorem GOnly.w {g : TG} {vs : List Nat} (go : GOnly g vs) (v : V) (σ : L2.St) (H : Hp) (Q : L2.St → Hp → Prop) (h : g v (L2.wipe σ vs) H Q) : g v (L2.wipe σ vs) H fun σ' H' => L2.wipe σ' vs = L2.wipe σ vs ∧ Q σ' H' := by
  have z := go v _ H Q h
  rw [wipe_wipe] at z
  exact z
theorem wo_lc {wi : TI} {g : TG} {vs : List Nat} {R : List D → Prop} (go : GOnly g vs) (h : WI B wi Γ fun ds => ds.length ≤ 5000 ∧ ∃ I : Nat → List D → Prop, I 0 [] ∧
    (∀ i d acc, ds[i]? = some d → I i acc → WG B g d (wipeC Γ vs) fun Γ2 => WT B tt Γ2 fun b => (b = true → WE B te Γ2 fun y => I (i + 1) (acc ++ [y])) ∧ (b = false → I (i + 1) acc)) ∧ ∀ acc, I ds.length acc → R acc) :
    WO B (tLc wi g tt te vs) Γ R := by
  intro M σ H S Q q
  refine h M σ H S _ fun J H1 ds G Y S1 x ⟨hl, I, i0, step, done⟩ sr A hA => ?_
  have f0 := fresh_ext S1 x hA
  have sA : Fx B.W.pot M H1 (upd H1 A (.lst [])) := S1.new_ hA
  have SA := (S1.alloc (o := .lst []) hA)
  obtain ⟨SO, o⟩ := S1.own SA sA hA upd_same
  have nA : ¬ M A := S1.notM hA
  refine lc_it sr.walk (fun i H' => ∃ acc l, Stt B (addM M A) H' (L2.wipe σ vs) (wipeC Γ vs) ∧ Fx B.W.pot M H1 H' ∧ Same (cut M H1) (cut (addM M A) H') ∧ H' A = some (.lst acc) ∧ Reps B.W (cut (addM M A) H') acc l ∧ l.length ≤ i ∧ I i l)
    ⟨[], [], SO.wipe vs, sA, cut_gain hA sA.ext, upd_same, .nil, Nat.le_refl _, i0⟩ (fun i H' _ ⟨_, _, _, _, s, _⟩ => sr.stays _ _ s) ?_ ?_
  · rintro i v H' H2 hi ⟨acc, l, S', x', s, hD, ra, ll, hI⟩ y
    obtain ⟨hH, d, hd, rd⟩ := sr.gives i _ H' v H2 hi s S'.dom y
    have S2 : Stt B (addM M A) H2 (L2.wipe σ vs) (wipeC Γ vs) ∧ Fx B.W.pot (addM M A) H' H2 := by
      rcases hH with rfl | ⟨T, o, hT, rfl⟩
      · exact ⟨S', Fx.refl⟩
      · exact ⟨S'.alloc hT, S'.new_ hT⟩
    obtain ⟨S2, x2⟩ := S2
    have na := (S1.wipe vs).apart nA
    refine (go.w v σ H2 _ (step i d l hd hI _ _ H2 v S2 rd _ fun σ3 Γ3 S3 w => ?_))
    have up : ∀ {H4 : Hp}, Fx B.W.pot (addM M A) H2 H4 → Fx B.W.pot M H1 H4 ∧ Same (cut M H1) (cut (addM M A) H4) ∧ H4 A = some (.lst acc) ∧ Reps B.W (cut (addM M A) H4) acc l := fun {H4} x4 => by
      have x5 := x2.trans x4
      refine ⟨⟨fun b o n z => ?_, fun m hm n => (x5.own m (.inl hm) n).trans (x'.own m hm n)⟩, s.trans x5.cut, (x5.own A (.inr rfl) o.np).trans hD, ra.mono x5.cut⟩
      have nb : b ≠ A := ne_of_none z hA
      exact x5.ext b o (fun zz => zz.elim n nb) (x'.ext b o n z)
    refine w _ σ3 H2 S3 _ fun b H4 S4 x4 ⟨k1, k2⟩ => ?_
    have back : ∀ {H5 : Hp}, Stt B (addM M A) H5 σ3 Γ3 → Fx B.W.pot (addM M A) H2 H5 → Stt B (addM M A) H5 (L2.wipe σ vs) (wipeC Γ vs) := fun {H5} S5 x5 => S2.fx x5 S5.pt
    cases b with
    | true =>
      rw [if_pos rfl]
      refine k1 rfl _ σ3 H4 S4 _ fun w H5 y5 S5 x5 r5 q5 => ?_
      obtain ⟨u1, u2, u3, u4⟩ := up (x4.trans x5)
      refine ⟨acc, u3, by rw [u4.length]; exact Nat.lt_of_le_of_lt (show l.length ≤ 5000 by omega) (by decide), acc ++ [w], l ++ [y5], ?_⟩
      have sm : Same (cut (addM M A) H5) (cut (addM M A) (upd H5 A (.lst (acc ++ [w])))) := cut_upd (.inr rfl)
      have S6 := back S5 (x4.trans x5)
      refine ⟨S6.touch (.inr rfl) o.np o.h0 na, ⟨fun b o n z => by rw [upd_ne (ne_of_none z hA)]; exact u1.ext b o n z, fun m hm n => by rw [upd_ne (fun zz => nA (by rw [← zz]; exact hm))]; exact u1.own m hm n⟩, u2.trans sm, upd_same, (u4.app (.one r5)).mono sm, by rw [List.length_append]; exact Nat.succ_le_succ ll, q5⟩
    | false =>
      rw [if_neg Bool.false_ne_true]
      obtain ⟨u1, u2, u3, u4⟩ := up x4
      exact ⟨acc, l, back S4 x4, u1, u2, u3, u4, Nat.le_succ_of_le ll, k2 rfl⟩
  · rintro H' ⟨acc, l, S', x', s, hD, ra, ll, hI⟩
    exact q A acc H' l (S1.fx x' S'.pt) (x.trans x') f0 hD ra (done l hI)
end
end K11

/-! K11E: defs, methods, the class Net: promises on data, calls. -/
namespace K11
open PySem PySem.Spec PyProof.Rows L2

def Fact (pot : Addr) (M : Addr → Prop) (H : Hp) : Prop := PotAt H pot ∧ M pot ∧ (∀ m, M m → H m ≠ none) ∧ ∀ m xs, M m → H m ≠ some (.tup xs)
/-- a def that gives a datum -/
def SpD (K : PySem.W.Frag) (C : Addr) (Pre : List D → Prop) (Post : List D → D → Prop) : Sp := fun vs H Q _ => ∃ (pot : Addr) (old M : Addr → Prop) (ds : List D), Fact pot M H ∧ Reps ⟨K, C, pot, old⟩ (cut M H) vs ds ∧ Pre ds ∧
  ∀ v H' d, PotAt H' pot → Fx pot M H H' → Rep ⟨K, C, pot, old⟩ (cut M H') v d → Post ds d → Q v H'
/-- a def that gives a new list -/
def SpO (K : PySem.W.Frag) (C : Addr) (Pre : List D → Prop) (Post : List D → List D → Prop) : Sp := fun vs H Q _ => ∃ (pot : Addr) (old M : Addr → Prop) (ds : List D), Fact pot M H ∧ Reps ⟨K, C, pot, old⟩ (cut M H) vs ds ∧ Pre ds ∧
  ∀ p xs H' l, PotAt H' pot → Fx pot M H H' → H p = none → H' p = some (.lst xs) → Reps ⟨K, C, pot, old⟩ (cut (addM M p) H') xs l → Post ds l → Q (.ref p) H'
/-- an __init__ -/
def SpI (K : PySem.W.Frag) (C : Addr) (Pre : List D → Prop) (Post : List D → D → Prop) : Sp := fun vs H Q _ => ∃ (pot : Addr) (old M : Addr → Prop) (ds : List D) (x dx : Addr) (vs' : List V), vs = .ref x :: vs' ∧ H x = some (.ins C dx []) ∧ ¬ M x ∧ Fact pot M H ∧
  Reps ⟨K, C, pot, old⟩ (cut (addM M x) H) vs' ds ∧ Pre ds ∧
  ∀ H' d, PotAt H' pot → (∀ b o, ¬ M b → b ≠ x → H b = some o → H' b = some o) → (∀ m, M m → m ≠ pot → H' m = H m) → Rep ⟨K, C, pot, old⟩ (cut M H') (.ref x) d → Post ds d → Q .non H'

def startC (N : List Str) (ds : List D) : Ctx := ds.map Ent.da ++ List.replicate (N.length - ds.length) Ent.no
abbrev bs (K : PySem.W.Frag) (C pot : Addr) (old M : Addr → Prop) (H : Hp) : Bs := ⟨⟨K, C, pot, old⟩, M, H⟩

section
variable {K : PySem.W.Frag} {C pot : Addr} {old : Addr → Prop}
theorem stt_start {M : Addr → Prop} {H : Hp} {N : List Str} {vs : List V} {ds : List D} (f : Fact pot M H) (r : Reps ⟨K, C, pot, old⟩ (cut M H) vs ds) (hl : ds.length ≤ N.length) : Stt (bs K C pot old M H) M H (L2.start N vs) (startC N ds) := by
  refine ⟨f.1, f.2.1, fun _ _ _ h => h, fun _ h => h, fun _ h => .inl h, f.2.2.1, f.2.2.2, ?_, fun i e h => ?_, fun i j e g p h1 h2 h3 => ?_⟩
  · unfold L2.start startC
    simp [r.length]
  · unfold startC at h
    by_cases hi : i < ds.length
    · rw [List.getElem?_append_left (by simpa using hi), List.getElem?_map] at h
      cases z : ds[i]? with
      | none => rw [z] at h; cases h
      | some d =>
        rw [z] at h
        cases h
        obtain ⟨x, hx, rx⟩ := r.getD z
        refine ⟨x, ?_, rx⟩
        unfold L2.start
        rw [List.getElem?_append_left (by rw [List.length_map, r.length]; exact hi), List.getElem?_map, hx]
        rfl
    · rw [List.getElem?_append_right (by simpa using hi), List.getElem?_replicate] at h
      split at h
      · cases h; exact trivial
      · cases h
  · exfalso
    unfold startC at h1
    by_cases hi : i < ds.length
    · rw [List.getElem?_append_left (by simpa using hi), List.getElem?_map] at h1
      cases z : ds[i]? with
      | none => rw [z] at h1; cases h1
      | some d => rw [z] at h1; cases h1; cases h3
    · rw [List.getElem?_append_right (by simpa using hi), List.getElem?_replicate] at h1
      split at h1
      · cases h1; cases h3
      · cases h1
theorem Stt.back {M0 M : Addr → Prop} {H0 H : Hp} {σ : L2.St} {Γ : Ctx} (f : Fact pot M0 H0) (S : Stt (bs K C pot old M0 H0) M H σ Γ) : PotAt H pot ∧ Fx pot M0 H0 H := by
  refine ⟨S.pt, fun b o n h => S.kp b o (fun z => n (z ▸ f.2.1)) h, fun m hm n => ?_⟩
  cases z : H0 m with
  | none => exact absurd z (f.2.2.1 m hm)
  | some o => exact S.kp m o n z
def poD (R : D → Prop) : Po := { nx := fun _ => R .non, rt := R }
def poO (R : List D → Prop) : Po := { ro := R }
variable {P : Program} {w : World} {mg : Str → Option Value} {base : Heap}
/-- a def of the text, whatever its defaults -/
structure FunX (K : PySem.W.Frag) (x qual : Str) (st : Stmt) (f : Addr) (fd : FuncData) : Prop where
  ex : ∃ (oc : Value) (od : Option Addr) (dV kV doc pm : Value) (an : Option Addr) (cdv ct : Value) (osl : Array (Option Value)),
    fd = PySem.W.fnOf x qual (defArgs st) (defBody st) (defScope st) dV kV doc pm an cdv ct ∧ K.lookup f = some ⟨oc, od, .func fd, osl⟩ ∧ PySem.W.codeIn K cdv qual = true
  kp : PySem.W.keepIn K (.ref f) = true
theorem FunX.ok {x qual : Str} {st : Stmt} {f : Addr} {fd : FuncData} {N ps : List Str} {k : Nat} {sp : Sp} (F : FunX K x qual st f fd) (S : FnScope N ps (defScope st)) (len : ∀ vs H Q E, sp vs H Q E → vs.length = ps.length)
    (hbody : ∀ (cdv : Value) (A : Around) (outer : List Env) (s : Shared) (H : Hp) (vs : List V) (Q : VK) (E : XK), Room k (A.deeper (envOfC qual (defScope st) s.heap.objs.size f cdv)) → sp vs H Q E →
      ∃ t, PSs (cxOf CX0 P w K mg base N qual (defScope st) f cdv A outer s H E).nox (defBody st) t ∧ t { nx := fun _ H' => Q .non H', rt := Q } (L2.start N vs) H) : FnOk P w K mg base CX0 (k + 1) f fd ps sp := by
  obtain ⟨oc, od, dV, kV, doc, pm, an, cdv, ct, osl, rfl, lk, hcd⟩ := F.ex
  refine fn_of lk hcd S len fun A outer s H vs Q E hr hsp => ?_
  obtain ⟨t, h, q⟩ := hbody cdv A outer s H vs Q E hr hsp
  exact ⟨t, h.nox, q⟩
/-- THE RULE for a def that gives a datum -/
theorem fnD {x qual : Str} {st : Stmt} {f : Addr} {fd : FuncData} {N ps : List Str} {k : Nat} {Pre : List D → Prop} {Post : List D → D → Prop} (F : FunX K x qual st f fd) (S : FnScope N ps (defScope st)) (len : ∀ ds, Pre ds → ds.length = ps.length)
    (hbody : ∀ (cdv : Value) (A : Around) (outer : List Env) (s : Shared) (H : Hp) (E : XK), Room k (A.deeper (envOfC qual (defScope st) s.heap.objs.size f cdv)) →
      ∃ t, PSs (cxOf CX0 P w K mg base N qual (defScope st) f cdv A outer s H E).nox (defBody st) t ∧ ∀ pot old M H ds, Pre ds → WS (bs K C pot old M H) t (startC N ds) (poD (Post ds))) : FnOk P w K mg base CX0 (k + 1) f fd ps (SpD K C Pre Post) := by
  have pl : ps.length ≤ N.length := by have := congrArg List.length S.pre; rw [List.length_take] at this; omega
  refine F.ok S (fun vs H Q E ⟨pot, old, M, ds, _, r, hp, _⟩ => r.length.trans (len ds hp)) fun cdv A outer s H vs Q E hr ⟨pot, old, M, ds, fc, r, hp, q⟩ => ?_
  obtain ⟨t, ht, hw⟩ := hbody cdv A outer s H E hr
  refine ⟨t, ht, hw pot old M H ds hp M _ H (stt_start fc r (by rw [len ds hp]; exact pl)) _ ⟨fun M1 σ1 H1 Γ1 S1 _ h => ?_, fun M1 σ1 H1 Γ1 v d S1 rd h => ?_, fun _ _ _ _ _ _ _ _ _ _ _ h => h.elim, fun _ _ _ _ _ _ h => h.elim, fun _ _ _ _ _ _ h => h.elim⟩⟩
  · obtain ⟨p, x⟩ := S1.back fc
    exact q .non H1 _ p x .non h
  · obtain ⟨p, x⟩ := S1.back fc
    exact q v H1 d p x (rd.mono (cut_sub S1.sub)) h
theorem fnO {x qual : Str} {st : Stmt} {f : Addr} {fd : FuncData} {N ps : List Str} {k : Nat} {Pre : List D → Prop} {Post : List D → List D → Prop} (F : FunX K x qual st f fd) (S : FnScope N ps (defScope st)) (len : ∀ ds, Pre ds → ds.length = ps.length)
    (hbody : ∀ (cdv : Value) (A : Around) (outer : List Env) (s : Shared) (H : Hp) (E : XK), Room k (A.deeper (envOfC qual (defScope st) s.heap.objs.size f cdv)) →
      ∃ t, PSs (cxOf CX0 P w K mg base N qual (defScope st) f cdv A outer s H E).nox (defBody st) t ∧ ∀ pot old M H ds, Pre ds → WS (bs K C pot old M H) t (startC N ds) (poO (Post ds))) : FnOk P w K mg base CX0 (k + 1) f fd ps (SpO K C Pre Post) := by
  have pl : ps.length ≤ N.length := by have := congrArg List.length S.pre; rw [List.length_take] at this; omega
  refine F.ok S (fun vs H Q E ⟨pot, old, M, ds, _, r, hp, _⟩ => r.length.trans (len ds hp)) fun cdv A outer s H vs Q E hr ⟨pot, old, M, ds, fc, r, hp, q⟩ => ?_
  obtain ⟨t, ht, hw⟩ := hbody cdv A outer s H E hr
  refine ⟨t, ht, hw pot old M H ds hp M _ H (stt_start fc r (by rw [len ds hp]; exact pl)) _ ⟨fun _ _ _ _ _ _ h => h.elim, fun _ _ _ _ _ _ _ _ h => h.elim, fun M1 σ1 H1 Γ1 p xs l S1 o hq rd h => ?_, fun _ _ _ _ _ _ h => h.elim, fun _ _ _ _ _ _ h => h.elim⟩⟩
  obtain ⟨pt, x⟩ := S1.back fc
  exact q p xs H1 l pt x o.h0 hq (rd.mono (cut_sub fun b z => z.elim (S1.sub b) fun e => e ▸ o.m)) h
/-- a new list looked at as data -/
theorem spO_imp {Pre : List D → Prop} {Post : List D → List D → Prop} {vs : List V} {H : Hp} {Q : VK} {E : XK} (h : SpD K C Pre (fun ds d => ∃ l, d = .lst l ∧ Post ds l) vs H Q E) : SpO K C Pre Post vs H Q E := by
  obtain ⟨pot, old, M, ds, fc, r, hp, q⟩ := h
  exact ⟨pot, old, M, ds, fc, r, hp, fun p xs H' l pt x f hq rd hl => q _ H' _ pt x (.lst (cut_some.mpr ⟨fun z => fc.2.2.1 p z f, hq⟩) (rd.mono cut_add)) ⟨l, rfl, hl⟩⟩
end

/-! ## calls -/
section
variable {B : Bs} {Γ : Ctx} {R : D → Prop} {ta te : TE} {t : TA} {Pre : List D → Prop} {Post : List D → D → Prop} {PostO : List D → List D → Prop} {dvs : List V} {dd : List D} {E : XK}
theorem Stt.fact {M : Addr → Prop} {H : Hp} {σ : L2.St} (S : Stt B M H σ Γ) : Fact B.W.pot M H := ⟨S.pt, S.mp, S.dom, S.tp⟩
theorem we_call (h : WA B t Γ fun ds => Pre ds ∧ ∀ d, Post ds d → R d) : WE B (tCall (SpD B.W.K B.W.C Pre Post) [] E t) Γ R := fun M σ H S Q q => h M σ H S _ fun vs H1 ds S1 x r ⟨hp, k⟩ =>
  ⟨B.W.pot, B.W.old, M, ds, S1.fact, by rw [List.append_nil]; exact r, hp, fun v H2 d pt x2 rd hd => q v H2 d (S1.fx x2 pt) (x.trans x2) rd (k d hd)⟩
theorem wo_call {R : List D → Prop} (h : WA B t Γ fun ds => Pre ds ∧ ∀ d, PostO ds d → R d) : WO B (tCall (SpO B.W.K B.W.C Pre PostO) [] E t) Γ R := fun M σ H S Q q => h M σ H S _ fun vs H1 ds S1 x r ⟨hp, k⟩ =>
  ⟨B.W.pot, B.W.old, M, ds, S1.fact, by rw [List.append_nil]; exact r, hp, fun p xs H2 l pt x2 f hq rd hd => q p xs H2 l (S1.fx x2 pt) (x.trans x2) (fresh_ext S1 x f) hq rd (k l hd)⟩
theorem netFs_eq (t1 t2 d : Addr) : netFs t1 t2 d = ([("own_nodes", V.ref t1), ("own_links", V.ref t2), ("own_near", V.ref d)] : List (Str × V)) := by
  have a1 : ¬ (("own_nodes" : Str) = "own_links") := by decide +kernel
  have a2 : ¬ (("own_nodes" : Str) = "own_near") := by decide +kernel
  have a3 : ¬ (("own_links" : Str) = "own_near") := by decide +kernel
  unfold netFs
  simp only [putF, if_neg a1, if_neg a2, if_neg a3]
theorem netFs_no (t1 t2 d : Addr) {m : Str} (h : (m == "own_nodes" || m == "own_links" || m == "own_near") = false) : (netFs t1 t2 d).lookup m = none := by
  rw [netFs_eq]
  simp only [Bool.or_eq_false_iff] at h
  rw [List.lookup_cons, h.1.1, List.lookup_cons, h.1.2, List.lookup_cons, h.2, List.lookup_nil]
theorem we_meth {m : Str} (hm : (m == "own_nodes" || m == "own_links" || m == "own_near") = false) (h : WE B ta Γ fun x => ∃ ns ls nr, x = .net ns ls nr ∧ WA B t Γ fun ds => Pre (x :: ds) ∧ ∀ d, Post (x :: ds) d → R d) :
    WE B (tMeth B.W.C m (SpD B.W.K B.W.C Pre Post) [] E ta t) Γ R := fun M σ H S Q q => h M σ H S _ fun v H1 x S1 x1 r ⟨ns, ls, nr, e, k⟩ => by
  subst e
  have r' := r
  cases r with
  | net h1 h2 h3 h4 =>
    refine ⟨_, _, _, rfl, (cut_some.mp h1).2, netFs_no _ _ _ hm, k M σ H1 S1 _ fun vs H2 ds S2 x2 rs ⟨hp, k2⟩ => ?_⟩
    exact ⟨B.W.pot, B.W.old, M, _, S2.fact, by rw [List.append_nil]; exact .cons (r'.mono x2.cut) rs, hp, fun v H3 d pt x3 rd hd => q v H3 d (S2.fx x3 pt) ((x1.trans x2).trans x3) rd (k2 d hd)⟩
theorem wo_meth {m : Str} {R : List D → Prop} (hm : (m == "own_nodes" || m == "own_links" || m == "own_near") = false) (h : WE B ta Γ fun x => ∃ ns ls nr, x = .net ns ls nr ∧ WA B t Γ fun ds => Pre (x :: ds) ∧ ∀ d, PostO (x :: ds) d → R d) :
    WO B (tMeth B.W.C m (SpO B.W.K B.W.C Pre PostO) [] E ta t) Γ R := fun M σ H S Q q => h M σ H S _ fun v H1 x S1 x1 r ⟨ns, ls, nr, e, k⟩ => by
  subst e
  have r' := r
  cases r with
  | net h1 h2 h3 h4 =>
    refine ⟨_, _, _, rfl, (cut_some.mp h1).2, netFs_no _ _ _ hm, k M σ H1 S1 _ fun vs H2 ds S2 x2 rs ⟨hp, k2⟩ => ?_⟩
    exact ⟨B.W.pot, B.W.old, M, _, S2.fact, by rw [List.append_nil]; exact .cons (r'.mono x2.cut) rs, hp, fun p xs H3 l pt x3 f hq rd hd => q p xs H3 l (S2.fx x3 pt) ((x1.trans x2).trans x3) (fresh_ext S2 (x1.trans x2) f) hq rd (k2 l hd)⟩
theorem we_prop (h : WE B ta Γ fun x => ∃ ns ls nr, x = .net ns ls nr ∧ Pre [x] ∧ ∀ d, Post [x] d → R d) : WE B (tProp B.W.C (SpD B.W.K B.W.C Pre Post) [] E ta) Γ R := fun M σ H S Q q => h M σ H S _ fun v H1 x S1 x1 r ⟨ns, ls, nr, e, hp, k⟩ => by
  subst e
  have r' := r
  cases r with
  | net h1 h2 h3 h4 =>
    exact ⟨_, _, _, rfl, (cut_some.mp h1).2, B.W.pot, B.W.old, M, _, S1.fact, .cons r' .nil, hp, fun v H3 d pt x3 rd hd => q v H3 d (S1.fx x3 pt) (x1.trans x3) rd (k d hd)⟩
theorem fld_nodes (t1 t2 d : Addr) : (netFs t1 t2 d).lookup ("own_nodes" : Str) = some (V.ref t1) := by rw [netFs_eq]; rfl
theorem fld_links (t1 t2 d : Addr) : (netFs t1 t2 d).lookup ("own_links" : Str) = some (V.ref t2) := by
  have a1 : (("own_links" : Str) == "own_nodes") = false := by decide +kernel
  rw [netFs_eq, List.lookup_cons, a1]
  rfl
theorem fld_near (t1 t2 d : Addr) : (netFs t1 t2 d).lookup ("own_near" : Str) = some (V.ref d) := by
  have a1 : (("own_near" : Str) == "own_nodes") = false := by decide +kernel
  have a2 : (("own_near" : Str) == "own_links") = false := by decide +kernel
  rw [netFs_eq, List.lookup_cons, a1, List.lookup_cons, a2]
  rfl
/-- what the class has -/
structure NetC (K : PySem.W.Frag) (C : Addr) : Prop where
  cl : Cls K C
  nN : NoAttr K C "own_nodes"
  nL : NoAttr K C "own_links"
  nR : NoAttr K C "own_near"
theorem we_nodes (T : NetC B.W.K B.W.C) (h : WE B ta Γ fun x => ∃ ns ls nr, x = .net ns ls nr ∧ R (.tup (sS ns))) : WE B (tFld B.W.K ta "own_nodes") Γ R := fun M σ H S Q q => h M σ H S _ fun v H1 x S1 x1 r ⟨ns, ls, nr, e, k⟩ => by
  subst e
  cases r with
  | net h1 h2 h3 h4 => exact ⟨_, _, _, _, _, rfl, (cut_some.mp h1).2, T.cl, T.nN, fld_nodes _ _ _, q _ H1 _ S1 x1 h2 k⟩
theorem we_links (T : NetC B.W.K B.W.C) (h : WE B ta Γ fun x => ∃ ns ls nr, x = .net ns ls nr ∧ R (.tup (dPs ls))) : WE B (tFld B.W.K ta "own_links") Γ R := fun M σ H S Q q => h M σ H S _ fun v H1 x S1 x1 r ⟨ns, ls, nr, e, k⟩ => by
  subst e
  cases r with
  | net h1 h2 h3 h4 => exact ⟨_, _, _, _, _, rfl, (cut_some.mp h1).2, T.cl, T.nL, fld_links _ _ _, q _ H1 _ S1 x1 h3 k⟩
theorem we_near (T : NetC B.W.K B.W.C) (h : WE B ta Γ fun x => ∃ ns ls nr, x = .net ns ls nr ∧ R (.dic (nearD nr))) : WE B (tFld B.W.K ta "own_near") Γ R := fun M σ H S Q q => h M σ H S _ fun v H1 x S1 x1 r ⟨ns, ls, nr, e, k⟩ => by
  subst e
  cases r with
  | net h1 h2 h3 h4 => exact ⟨_, _, _, _, _, rfl, (cut_some.mp h1).2, T.cl, T.nR, fld_near _ _ _, q _ H1 _ S1 x1 h4 k⟩
/-- C(..) -/
theorem make_core {M : Addr → Prop} {σ : L2.St} {H1 : Hp} {vs : List V} {ds : List D} {Q : VK} (S1 : Stt B M H1 σ Γ) (r : Reps B.W (cut M H1) vs ds) (hp : Pre ds) (q : ∀ v H2 d, Stt B M H2 σ Γ → Fx B.W.pot M H1 H2 → Rep B.W (cut M H2) v d → Post ds d → Q v H2) :
    ∀ x dx, H1 x = none → H1 dx = none → dx ≠ x → SpI B.W.K B.W.C Pre Post (.ref x :: vs) (upd (upd H1 dx (.own x)) x (.ins B.W.C dx [])) (fun v H2 => v = .non ∧ Q (.ref x) H2) E := by
  intro x dx hx hdx ne
  have hx' : upd H1 dx (.own x) x = none := by rw [upd_ne ne.symm]; exact hx
  have S2 := (S1.alloc (o := .own x) hdx).alloc (o := .ins B.W.C dx []) hx'
  have sm : Same (cut M H1) (cut (addM M x) (upd (upd H1 dx (.own x)) x (.ins B.W.C dx []))) := (cut_alloc' hdx).trans (cut_alloc hx')
  have x2 : Fx B.W.pot M H1 (upd (upd H1 dx (.own x)) x (.ins B.W.C dx [])) := (S1.new_ hdx).trans ((S1.alloc hdx).new_ hx')
  refine ⟨B.W.pot, B.W.old, M, ds, x, dx, vs, rfl, upd_same, S1.notM hx, S2.fact, r.mono sm, hp, fun H' d pt k1 k2 rd hd => ⟨rfl, ?_⟩⟩
  have x3 : Fx B.W.pot M H1 H' := ⟨fun b o n z => k1 b o n (ne_of_none z hx) (x2.ext b o n z), fun m hm n => (k2 m hm n).trans (x2.own m hm n)⟩
  exact q _ H' d (S1.fx x3 pt) x3 rd hd
theorem we_make (hd : ∀ M H, Reps B.W (cut M H) dvs dd) (h : WA B t Γ fun ds => Pre (ds ++ dd) ∧ ∀ d, Post (ds ++ dd) d → R d) : WE B (tMake B.W.C (SpI B.W.K B.W.C Pre Post) dvs E t) Γ R := fun M σ H S Q q => h M σ H S _ fun vs H1 ds S1 x1 r ⟨hp, k⟩ =>
  make_core S1 (r.app (hd M H1)) hp fun v H2 d S2 x2 rd h2 => q v H2 d S2 (x1.trans x2) rd (k d h2)
end
end K11

/-! K11F: the text by places; one's own defs by name; one step of the walk on data. -/
namespace K11
open PySem PySem.Spec PyProof.Rows L2

def top (i : Nat) : Stmt := PySem.Challenge.pw_outsigns_k11_whole_nets_by_own_sets.main.body.getD i (.Pass ⟨0, 0, 0, 0⟩)

/-- a def of the text: where it stands -/
structure Fd (K : PySem.W.Frag) (mg : Str → Option Value) (x : Str) (ps : List Str) (st : Stmt) : Prop where
  ex : ∃ (f : Addr) (fd : FuncData), FunX K x x st f fd ∧ mg x = some (.ref f) ∧ Binds K fd ps []
/-- a def's promise, by its name -/
structure Cl (P : Program) (w : World) (K : PySem.W.Frag) (mg : Str → Option Value) (base : Heap) (k : Nat) (x : Str) (ps : List Str) (sp : Sp) : Prop where
  ex : ∃ (f : Addr) (fd : FuncData), FnOk P w K mg base CX0 k f fd ps sp ∧ mg x = some (.ref f) ∧ PySem.W.keepIn K (.ref f) = true ∧ Binds K fd ps []
theorem Fd.cl {P : Program} {w : World} {K : PySem.W.Frag} {mg : Str → Option Value} {base : Heap} {k : Nat} {x : Str} {ps : List Str} {st : Stmt} {sp : Sp} (F : Fd K mg x ps st)
    (h : ∀ f fd, FunX K x x st f fd → FnOk P w K mg base CX0 k f fd ps sp) : Cl P w K mg base k x ps sp := by
  obtain ⟨f, fd, h1, h2, h3⟩ := F.ex
  exact ⟨f, fd, h f fd h1, h2, h1.kp, h3⟩
theorem pcl {X : Cx} {k : Nat} {x : Str} {ps : List Str} {sp : Sp} {p pos : Pos} {e : Expr} {es : List Expr} {t : TA} (c : Cl X.prog X.w X.K X.mg X.base k x ps sp) (hr : Room k X.A) (ha : PA X (e :: es) t) (hg : Gl X x := by rfl)
    (hdb : (x == ("__debug__" : Str)) = false := by decide) (he : starEach (e :: es) X.env = (false, eval e X.env) :: starEach es X.env := by rfl) (hpl : (backTo pos (starEach es X.env)).any (·.1) = false := by rfl) :
    PE X (.Call (.Name x p) (e :: es) [] pos) (tCall sp [] E0 t) := by
  obtain ⟨f, fd, h1, h2, h3, h4⟩ := c.ex
  exact pe_call h1 hr hg h2 h3 h4 .nil pass0 ha hdb he hpl

section
variable {B : Bs} {Γ : Ctx} {R : D → Prop}
def rLen (K : PySem.W.Frag) : List V → Hp → VK → Prop := fun xs H Q => ∃ p ys, xs = [.ref p] ∧ (SqL K H p ys ∨ SqT K H p ys) ∧ Q (.int ys.length) H
theorem call_len2 {X : Cx} : CallR X (.builtin "len") (rLen X.K) := call_len_seq
theorem vc_lenL {l : List D} (q : R (.int l.length)) : VC B (rLen B.W.K) [.lst l] R := fun M H v r _ _ _ Q k => by
  cases r with
  | cons r1 r2 =>
    cases r2
    cases r1 with
    | lst h1 rs => exact ⟨_, _, rfl, .inl (.of (cut_some.mp h1).2), by rw [rs.length]; exact k _ H _ (fun _ _ => rfl) (Same.refl H) (.int _) q⟩
theorem vc_lenT {l : List D} (q : R (.int l.length)) : VC B (rLen B.W.K) [.tup l] R := fun M H v r _ _ _ Q k => by
  cases r with
  | cons r1 r2 =>
    cases r2
    cases r1 with
    | tup h1 rs => exact ⟨_, _, rfl, .inr (same_t cut_same h1.sq), by rw [rs.length]; exact k _ H _ (fun _ _ => rfl) (Same.refl H) (.int _) q⟩
theorem v2_ixLn {l : List D} {i : Int} (h0 : 0 ≤ i) (h1 : i < l.length) (q : ∀ d, l[i.toNat]? = some d → R d) : V2 B (rIxL B.W.K) (.lst l) (.int i) R := by
  have hj : i.toNat < l.length := by omega
  exact v2_ixL (j := i.toNat) (by unfold ixN; rw [if_pos h0, if_pos h1]) (List.getElem?_eq_getElem hj) (q _ (List.getElem?_eq_getElem hj))
theorem v2_ixTn {l : List D} {i : Int} (h0 : 0 ≤ i) (h1 : i < l.length) (q : ∀ d, l[i.toNat]? = some d → R d) : V2 B (rIxT B.W.K) (.tup l) (.int i) R := by
  have hj : i.toNat < l.length := by omega
  exact v2_ixT (j := i.toNat) (by unfold ixN; rw [if_pos h0, if_pos h1]) (List.getElem?_eq_getElem hj) (q _ (List.getElem?_eq_getElem hj))
theorem v2_ixLm {l : List D} (h1 : 0 < l.length) (q : ∀ d, l[l.length - 1]? = some d → R d) : V2 B (rIxL B.W.K) (.lst l) (.int (-1)) R := by
  have hj : l.length - 1 < l.length := by omega
  refine v2_ixL (j := l.length - 1) ?_ (List.getElem?_eq_getElem hj) (q _ (List.getElem?_eq_getElem hj))
  unfold ixN
  rw [if_neg (by omega), if_pos (by omega)]
  congr 1
  omega
end

/-! ### one step -/
local macro_rules | `(tactic| walk_at "w") => `(tactic| (first
  | (with_reducible refine ws_seq ?_)
  | (with_reducible refine ws_ret ?_)
  | (with_reducible refine we_var (by with_unfolding_all rfl) ?_)
  | (with_reducible refine we_int ?_)
  | (with_reducible refine we_str ?_)
  | (with_reducible refine we_bl ?_)
  | (with_reducible refine we_non ?_)
  | (with_reducible refine wa_cons ?_)
  | (with_reducible refine wa_nil ?_)
  | (with_reducible refine we_cb ?_)
  | (with_reducible refine vc_lenL ?_)
  | (with_reducible refine vc_lenT ?_)
  | (with_reducible refine v2_ixLn ?_ ?_ ?_)
  | (with_reducible refine v2_ixTn ?_ ?_ ?_)
  | (with_reducible refine we_call ?_)
  | (with_reducible refine we_op ?_)
  | (with_reducible refine we_tup ?_)
  | (with_reducible refine we_if ?_)
  | (with_reducible refine wt_test ?_)))

/-! ### the pot's draws -/
abbrev sDraw : Stmt := top 33
abbrev sPick : Stmt := top 34
abbrev sLink : Stmt := top 37
def preDraw : List D → Prop := fun ds => ∃ n : Int, ds = [.pot, .int n] ∧ 1 ≤ n ∧ n ≤ 1000
def postDraw : List D → D → Prop := fun ds d => ∀ n : Int, ds = [.pot, .int n] → ∃ i : Int, d = .int i ∧ 0 ≤ i ∧ i < n
def prePick : List D → Prop := fun ds => ∃ l : List D, ds = [.pot, .lst l] ∧ 1 ≤ l.length ∧ l.length ≤ 1000
def postPick : List D → D → Prop := fun ds d => ∀ l, ds = [.pot, .lst l] → d ∈ l
section
variable {P : Program} {w : World} {K : PySem.W.Frag} {mg : Str → Option Value} {base : Heap} {C : Addr}
theorem scPick : FnScope ["_law_pot_here", "_law_some"] ["_law_pot_here", "_law_some"] (defScope sPick) := ⟨rfl, rfl, rfl, by decide +kernel, rfl, by decide +kernel, by decide +kernel⟩
theorem cl_pick (F : Fd K mg "_law_pick" ["_law_pot_here", "_law_some"] sPick) (cD : Cl P w K mg base 1 "_law_draw" ["_law_pot_here", "_law_size"] (SpD K C preDraw postDraw)) (ml : mg "len" = none) :
    Cl P w K mg base 2 "_law_pick" ["_law_pot_here", "_law_some"] (SpD K C prePick postPick) := F.cl fun f fd F => by
  refine fnD F scPick (fun ds ⟨l, e, _⟩ => by subst e; rfl) fun cdv A outer s H E hr => ?_
  refine ⟨_, pss_one (ps_ret (pe_ix ix_list (pv 1) (pcl cD (hr.mono (by decide)) (pa_cons (pv 0) (pa_cons (pe_callB call_len2 (by rfl) ml PySem.boot_len (pa_cons (pv 1) pa_nil)) pa_nil))) (fun _ _ => rfl))), fun pot old M H ds hp => ?_⟩
  obtain ⟨l, rfl, h1, h2⟩ := hp
  dsimp only [cxOf, Cx.nox, Cx.wish]
  show WS _ _ [.da .pot, .da (.lst l)] _
  repeat (walk_at "w")
  refine ⟨⟨_, rfl, by omega, by omega⟩, fun d hd => ?_⟩
  obtain ⟨i, rfl, i0, i1⟩ := hd _ rfl
  refine v2_ixLn i0 i1 fun d hd l' e => ?_
  cases e
  exact List.mem_of_getElem? hd
/-! the draw itself: over the heap -/
theorem scDraw : FnScope ["_law_pot_here", "_law_size", "_law_digit"] ["_law_pot_here", "_law_size"] (defScope sDraw) := ⟨rfl, rfl, rfl, by decide +kernel, rfl, by decide +kernel, by decide +kernel⟩
theorem cl_draw (F : Fd K mg "_law_draw" ["_law_pot_here", "_law_size"] sDraw) (md : mg "divmod" = none) (mi : mg "int" = none) : Cl P w K mg base 1 "_law_draw" ["_law_pot_here", "_law_size"] (SpD K C preDraw postDraw) := F.cl fun f fd F => by
  refine F.ok scDraw (fun vs H Q E ⟨pot, old, M, ds, _, r, ⟨n, e, _⟩, _⟩ => by rw [r.length, e]; rfl) fun cdv A outer s H vs Q E hr ⟨pot, old, M, ds, fc, r, ⟨n, e, n1, n2⟩, q⟩ => ?_
  subst e
  cases r with
  | cons r1 r2 =>
    cases r2 with
    | cons r2 r3 =>
      cases r3
      cases r1
      cases r2
      obtain ⟨⟨a, b, hp, b0, b1⟩, mp, dm, _⟩ := fc
      refine ⟨_, pss_cons (ps_if (pt_cmpR op_gt (pe_ix ix_list (pv 0) pe_int (fun _ _ => rfl)) pe_int (nomark _))
          (pss_cons (ps_asg (pe_callB call_divmod (by rfl) md (by decide +kernel) (pa_cons (pe_ix ix_list (pv 0) pe_int (fun _ _ => rfl)) (pa_cons (pv 1) pa_nil)))
            (pg_tup (by rfl) (pgs_cons (pg_sub (pv 0) pe_int set_list) (pgs_cons (pg_name (i := 2) scDraw.nd rfl (.inl rfl)) pgs_nil)))) (pss_one (ps_ret (pv 2)))) pss_nil)
        (pss_cons (ps_asg (pe_op op_mod (pe_callTy call_int1 (by rfl) mi (by decide +kernel) (pa_cons (pe_op op_add (pe_op op_mul (pe_ix ix_list (pv 0) pe_int (fun _ _ => rfl)) pe_int) pe_int) pa_nil)) pe_int) (pg_sub (pv 0) pe_int set_list))
        (pss_one (ps_ret (pe_op op_mod (pe_callTy call_int1 (by rfl) mi (by decide +kernel) (pa_cons (pe_op op_fdiv (pe_op op_mod (pe_callTy call_int1 (by rfl) mi (by decide +kernel) (pa_cons (pe_op op_mul (pe_ix ix_list (pv 0) pe_int (fun _ _ => rfl)) (pe_ix ix_list (pv 0) pe_int (fun _ _ => rfl))) pa_nil)) pe_int) pe_int) pa_nil)) (pv 1))))), ?_⟩
      refine ⟨_, rfl, pot, _, 0, .int a, rfl, rfl, .of hp, atI_nat (j := 0) rfl, _, _, rfl, rfl, _, rfl, ?_⟩
      refine ite2 (fun ha => ?_) (fun ha => ?_)
      · refine ⟨_, rfl, pot, _, 0, .int a, rfl, rfl, .of hp, atI_nat (j := 0) rfl, _, rfl, a, n, rfl, ⟨by omega, by omega⟩, fun t ht => ?_⟩
        have ne : pot ≠ t := ne_of_none hp ht
        have hp2 : upd H t (.tup [.int (a / n), .int (a % n)]) pot = some (.lst [.int a, .int b]) := by rw [upd_ne ne]; exact hp
        refine ⟨t, _, rfl, .of upd_same, rfl, _, _, rfl, _, rfl, pot, _, 0, 0, rfl, rfl, hp2, rfl, _, _, rfl, rfl, _, rfl, ?_⟩
        refine q (.int (a % n)) _ (.int (a % n)) ⟨a / n, b, upd_same, b0, b1⟩ ⟨fun c o nm z => ?_, fun m hm nm => ?_⟩ (.int _) fun n' e => ?_
        · have nc : c ≠ pot := fun z => nm (z ▸ mp)
          rw [upd_ne nc, upd_ne (ne_of_none z ht)]
          exact z
        · rw [upd_ne nm, upd_ne (fun z => dm m hm (by rw [z]; exact ht))]
        · cases e
          exact ⟨a % n, rfl, Int.emod_nonneg _ (by omega), Int.emod_lt_of_pos _ (by omega)⟩
      · refine ⟨_, rfl, pot, _, 1, .int b, rfl, rfl, .of hp, atI_nat (j := 1) rfl, b, 48271, rfl, rfl, .inl ⟨by omega, by omega⟩, _, _, rfl, rfl, .inl ⟨_, rfl, _, _, rfl, rfl, (by show (0 : Int) < 2147483587; decide), ?_⟩⟩
        have c0 : 0 ≤ (b * 48271 + 12161) % 2147483587 := Int.emod_nonneg _ (by decide)
        have c1 : (b * 48271 + 12161) % 2147483587 < 2147483587 := Int.emod_lt_of_pos _ (by decide)
        show gSub (tVar 0) (tC (V.int 1)) rSetL (V.int ((b * 48271 + 12161) % 2147483587)) _ _ _
        generalize (b * 48271 + 12161) % 2147483587 = c at c0 c1 ⊢
        refine ⟨_, rfl, pot, _, 1, 1, rfl, rfl, hp, rfl, ?_⟩
        have hp2 : upd H pot (.lst ([V.int a, V.int b].set 1 (V.int c))) pot = some (.lst [.int a, .int c]) := upd_same
        refine ⟨_, rfl, pot, _, 1, .int c, rfl, rfl, .of hp2, atI_nat (j := 1) rfl, _, rfl, pot, _, 1, .int c, rfl, rfl, .of hp2, atI_nat (j := 1) rfl, c, c, rfl, rfl, .inl ⟨by omega, by omega⟩, .inl ⟨_, rfl, _, _, rfl, rfl, (by show (0 : Int) < 2147483549; decide), _, _, rfl, rfl, ⟨by decide, by decide⟩, .inl ⟨_, rfl, _, rfl, _, _, rfl, rfl, by omega, ?_⟩⟩⟩
        refine q _ _ (.int _) ⟨a, c, hp2, c0, by omega⟩ ⟨fun x o nm z => ?_, fun m hm nm => ?_⟩ (.int _) fun n' e => ?_
        · have nc : x ≠ pot := fun z => nm (z ▸ mp)
          rw [upd_ne nc]
          exact z
        · rw [upd_ne nm]
        · cases e
          exact ⟨_, rfl, Int.emod_nonneg _ (by omega), Int.emod_lt_of_pos _ (by omega)⟩
end
end K11

/-! K11S: sorted() of texts and of links, over lists, tuples, dicts. -/
namespace K11
open PySem PySem.Spec PyProof.Rows L2 SrtO

/-! ## orders -/
def txtL (v : Value) : List Nat := match v with
  | .str x _ => x.cps.toList
  | _ => []
def ltT (v u : Value) : Bool := decide (txtL v < txtL u)
theorem nlt_trans {a b c : List Nat} (h1 : ¬ b < a) (h2 : ¬ c < b) : ¬ c < a := by
  rw [List.not_lt] at h1 h2 ⊢
  exact List.le_trans h1 h2
theorem swoT : Swo ltT := by
  refine ⟨fun x y h => ?_, fun x y z h1 h2 => ?_⟩
  · unfold ltT at h ⊢
    have h := of_decide_eq_true h
    exact decide_eq_false (List.lt_asymm h)
  · unfold ltT at h1 h2 ⊢
    exact decide_eq_false (nlt_trans (of_decide_eq_false h1) (of_decide_eq_false h2))
def ltP (p q : Str × Str) : Bool := if p.1 = q.1 then decide (p.2.cps.toList < q.2.cps.toList) else decide (p.1.cps.toList < q.1.cps.toList)
theorem cps_inj {a b : Str} (h : a.cps.toList = b.cps.toList) : a = b := by
  obtain ⟨a⟩ := a
  obtain ⟨b⟩ := b
  congr 1
  exact Array.toList_inj.mp h
theorem nlt_both {a b : Str} (h1 : ¬ a.cps.toList < b.cps.toList) (h2 : ¬ b.cps.toList < a.cps.toList) : a = b := by
  rw [List.not_lt] at h1 h2
  exact cps_inj (List.le_antisymm h2 h1)
theorem ltP_no {p q : Str × Str} : ltP p q = false ↔ ¬ p.1.cps.toList < q.1.cps.toList ∧ (p.1 = q.1 → ¬ p.2.cps.toList < q.2.cps.toList) := by
  unfold ltP
  by_cases e : p.1 = q.1
  · rw [if_pos e, decide_eq_false_iff_not]
    exact ⟨fun h => ⟨by rw [e]; exact List.lt_irrefl _, fun _ => h⟩, fun h => h.2 e⟩
  · rw [if_neg e, decide_eq_false_iff_not]
    exact ⟨fun h => ⟨h, fun z => absurd z e⟩, fun h => h.1⟩
theorem ltP_asym {p q : Str × Str} (h : ltP p q = true) : ltP q p = false := by
  unfold ltP at h ⊢
  by_cases e : p.1 = q.1
  · rw [if_pos e] at h
    rw [if_pos e.symm]
    exact decide_eq_false (List.lt_asymm (of_decide_eq_true h))
  · rw [if_neg e] at h
    rw [if_neg (Ne.symm e)]
    exact decide_eq_false (List.lt_asymm (of_decide_eq_true h))
theorem ltP_tr {x y z : Str × Str} (h1 : ltP y x = false) (h2 : ltP z y = false) : ltP z x = false := by
  rw [ltP_no] at h1 h2 ⊢
  refine ⟨nlt_trans h1.1 h2.1, fun e => ?_⟩
  have e1 : x.1 = y.1 := nlt_both (fun q => h2.1 (by rw [e]; exact q)) h1.1
  exact nlt_trans (h1.2 e1.symm) (h2.2 (e.trans e1))
theorem swoP (k : Value → Str × Str) : Swo fun v u => ltP (k v) (k u) := ⟨fun _ _ h => ltP_asym h, fun _ _ _ h1 h2 => ltP_tr h1 h2⟩

/-! ## the machine's comparisons -/
section
variable {prog : Program} {w : World} {A : Around} {E : Value → Shared → Prop} {s : Shared}
def IsT (v : Value) : Prop := ∃ x t, v = Value.str x t
def IsL (h : Heap) (v : Value) (x y : Str) : Prop := ∃ a o t u n, v = .ref a ∧ h.get? a = some o ∧ o.cls = .type "tuple" ∧ o.data = .seq #[.str x t, .str y u] n
theorem IsL.keeps {h h' : Heap} {v : Value} {x y : Str} (p : IsL h v x y) (k : ∀ b o, h.get? b = some o → o.cls = .type "tuple" → h'.get? b = some o) : IsL h' v x y := by
  obtain ⟨a, o, t, u, n, e, ho, hc, hd⟩ := p
  exact ⟨a, o, t, u, n, e, k _ _ ho hc, hc, hd⟩
theorem strsAre_of : ∀ {vs : List Value}, (∀ v ∈ vs, IsT v) → ∃ ss, StrsAre vs ss
  | [], _ => ⟨[], .nil⟩
  | v :: vs, h => by
    obtain ⟨x, t, rfl⟩ := h v List.mem_cons_self
    obtain ⟨ss, r⟩ := strsAre_of fun u hu => h u (List.mem_cons_of_mem _ hu)
    exact ⟨x :: ss, .cons _ _ r⟩
theorem texts_sortable {a : Addr} {vs : List Value} (h2 : 2 ≤ vs.length) (hp : ∀ v ∈ vs, IsT v) : SortableO prog w A s a vs ltT := by
  intro h' _
  refine ⟨oneType', fun Q E hq => ?_, fun p q hm hm' => ?_⟩
  · obtain ⟨v1, v2, r, rfl⟩ : ∃ v1 v2 r, vs = v1 :: v2 :: r := by
      match vs, h2 with
      | v1 :: v2 :: r, _ => exact ⟨v1, v2, r, rfl⟩
    obtain ⟨ss, hs⟩ := strsAre_of hp
    rw [keyKind_strs hs]
    exact wpAny_pure hq
  · obtain ⟨x, t, e1⟩ := hp _ hm
    obtain ⟨y, u, e2⟩ := hp _ hm'
    show wpAny (model prog w) A (keyLt' oneType' p.1 q.1) (fun r s' => s' = _ ∧ r = ltT p.1 q.1) (fun _ _ => False) _
    rw [e1, e2]
    exact oneLt_str ⟨rfl, rfl⟩
theorem firstsT {h : Heap} {k : Value → Str × Str} : ∀ {vs : List Value}, (∀ v ∈ vs, IsL h v (k v).1 (k v).2) → ∃ fs : List Value, PySem.W.KatTups h vs fs ∧ fs.length = vs.length ∧ ∀ f ∈ fs, IsT f
  | [], _ => ⟨[], PySem.W.KatTups.nil, rfl, fun _ hm => by simp at hm⟩
  | v :: vs, hp => by
    obtain ⟨fs, h1, h2, h3⟩ := firstsT (vs := vs) fun v' hm => hp v' (List.mem_cons_of_mem _ hm)
    obtain ⟨a, o, t, u, n, e, ho, hc, hd⟩ := hp v (List.mem_cons_self ..)
    generalize k v = kv at hd
    subst e
    refine ⟨.str kv.1 t :: fs, PySem.W.KatTups.cons ho hc hd rfl h1, by simp [h2], fun f hm => ?_⟩
    rcases List.mem_cons.mp hm with z | z
    · exact ⟨_, t, z⟩
    · exact h3 f z
theorem links_cmp {vs : List Value} {k : Value → Str × Str} (hp : ∀ v ∈ vs, IsL s.heap v (k v).1 (k v).2) : Cmp prog w A s (tuples' true) (fun p => p.1 ∈ vs) (lt2 fun v u => ltP (k v) (k u)) := by
  intro p q hm hm'
  have h1 := hp _ hm
  have h2 := hp _ hm'
  show wpAny (model prog w) A (keyLt' (tuples' true) p.1 q.1) (fun r s' => s' = s ∧ r = ltP (k p.1) (k q.1)) (fun _ _ => False) s
  generalize k p.1 = x at h1 ⊢
  generalize k q.1 = y at h2 ⊢
  obtain ⟨a, o, t, u, n, e, ho, hc, hd⟩ := h1
  obtain ⟨a', o', t', u', n', e', ho', hc', hd'⟩ := h2
  rw [e, e']
  refine PySem.W.kat_lt ho hd ho' hd' ?_
  show PySem.W.KatLex prog w A true (decide (2 < 2)) _ [(.str x.1 t, .str y.1 t'), (.str x.2 u, .str y.2 u')] 0 s
  refine PySem.W.kat_cons (SeqAt.EqAt.str_str x.1 t y.1 t' prog w _ _ (PySem.W.kat_go (fun e1 => ?_) fun e1 => ?_))
  · have ex : x.1 = y.1 := by simpa using e1
    refine PySem.W.kat_yes (PySem.W.kat_cons (SeqAt.EqAt.str_str x.2 u y.2 u' prog w _ _ (PySem.W.kat_go (fun e2 => ?_) fun e2 => ?_)))
    · have ey : x.2 = y.2 := by simpa using e2
      refine PySem.W.kat_yes (PySem.W.kat_nil ⟨rfl, ?_⟩)
      unfold ltP
      rw [if_pos ex, ey]
      exact (decide_eq_false (List.lt_irrefl _)).symm
    · refine PySem.W.kat_no (PySem.W.kat_one _ _ (lt_str ⟨rfl, ?_⟩))
      unfold ltP
      rw [if_pos ex]
  · have ex : ¬ x.1 = y.1 := by simpa using e1
    refine PySem.W.kat_no (oneLt_str ⟨rfl, ?_⟩)
    unfold ltP
    rw [if_neg ex]
theorem links_sortable {a : Addr} {vs : List Value} {k : Value → Str × Str} (h0 : 0 < vs.length) (hp : ∀ v ∈ vs, IsL s.heap v (k v).1 (k v).2) (ha : ∀ o, s.heap.get? a = some o → o.cls ≠ .type "tuple") : SortableO prog w A s a vs fun v u => ltP (k v) (k u) := by
  intro h' keep
  have hp' : ∀ v ∈ vs, IsL h' v (k v).1 (k v).2 := fun v hm => (hp v hm).keeps fun b o e c => keep b o (fun z => by subst z; exact ha o e c) e
  obtain ⟨fs, h1, h2, h3⟩ := firstsT hp'
  refine ⟨tuples' true, fun Q E hq => ?_, links_cmp hp'⟩
  refine PySem.W.kat_kind (T := .type "str") h1 (by omega) (fun f hm => ?_) (by rfl) ?_
  · obtain ⟨x, t, rfl⟩ := h3 f hm
    exact PySem.W.Looks.now
  · have e : (Value.type "str" != Value.type "tuple") = true := by first | decide +kernel | rfl | decide
    rw [e]
    exact hq

/-! ## sorted(..) up to what it collects -/
theorem collectT {l : Addr} {vs : Array Value} {Q : List Value → Shared → Prop} (hl : IsTup s.heap l vs) (hsz : vs.size ≤ sizeLine)
    (h : Q vs.toList { s with heap := (s.heap.push (seqObj "list" #[] 0)).update s.heap.objs.size (Obj.mapSeq (· ++ vs)) }) :
    wpAny (model prog w) A (collect (.ref l)) Q E s := by
  obtain ⟨o, ho, hc, n, hd⟩ := id hl
  unfold collect
  refine wpAny_bind (wpAny_runValue (codeAny_builtin entry_proto_collect' ?_))
  show wpAny _ _ (newList [] >>= fun z => again (.builtin "list.__iadd__" ⟨[z, .ref l], []⟩)) _ _ s
  refine wpAny_bind (wpAny_newList ?_)
  refine wpAny_pure ⟨Code.quiet_builtin _ (by decide +kernel), codeAny_builtin entry_list_iadd' ?_⟩
  show wpAny _ _ (Builtin.List.listExtendWith (.ref s.heap.objs.size) (.ref l) (.ref s.heap.objs.size)) _ _ { s with heap := s.heap.push (seqObj "list" #[] 0) }
  unfold Builtin.List.listExtendWith
  have ho' : (s.heap.push (seqObj "list" #[] 0)).get? l = some o := Heap.get?_push_of_some _ ho
  refine wpAny_bind (wpAny_typeOf (T := "tuple") ⟨o, ho', hc⟩ ?_)
  have ht : (Value.type "tuple" == Value.type "tuple") = true := by rfl
  rw [if_pos (by rw [ht]; simp)]
  refine wpAny_bind (listItems_at ho' hd (wpAny_bind (listItems_at (xs := #[]) (n := 0) (Heap.get?_push_size _ rfl) rfl ?_)))
  rw [if_neg (by simp)]
  refine wpAny_bind (listUpdate_at (xs := #[]) (n := 0) (Heap.get?_push_size _ rfl) rfl ?_ (Nat.zero_le _) (by simp; omega))
  refine wpAny_pure ?_
  show wpAny (model prog w) A (load s.heap.objs.size >>= fun o => match o.data with
      | .seq xs _ => pure xs.toList
      | _ => unsupported "internal:collect") Q E { s with heap := (s.heap.push (seqObj "list" #[] 0)).update s.heap.objs.size (Obj.mapSeq (· ++ vs)) }
  refine wpAny_bind (wpAny_load (get?_update_seq (Heap.get?_push_size _ rfl) _) ?_)
  show wpAny _ _ (pure ((#[] : Array Value) ++ vs).toList) Q E _
  rw [show ((#[] : Array Value) ++ vs).toList = vs.toList by simp]
  exact wpAny_pure h
theorem sorted_of {v : Value} {ltv : Value → Value → Bool} {Q : Value → Shared → Prop} (O : Swo ltv)
    (hcol : ∀ (R : List Value → Shared → Prop), (∀ (h' : Heap) (tk : Nat) (vs : List Value), (∀ b o, s.heap.get? b = some o → h'.get? b = some o) → vs.length ≤ 100000 →
        (2 ≤ vs.length → SortableO prog w A.in1.in1 { s with heap := h'.push (seqObj "list" vs.toArray 0), toks := tk } h'.objs.size vs ltv) →
        (∀ (out : List Value) (h2 : Heap) (n : Nat), Srtd ltv out → Stb ltv out vs → (∀ b o, h'.get? b = some o → h2.get? b = some o) → h2.get? h'.objs.size = some (seqObj "list" out.toArray n) → Q (.ref h'.objs.size) { s with heap := h2, toks := tk }) → R vs { s with heap := h', toks := tk }) →
        wpAny (model prog w) A.in1 (collect v) R E s) : wpAny (model prog w) A (call (.builtin "sorted") [v]) Q E s := by
  refine Calls.call_function_entry kind_sorted plain_sorted entry_sorted (args_sorted1 _) ?_
  unfold Builtin.«sorted»
  refine wpAny_bind (m := checkCount "sorted" 1 1 _) (wpAny_pure ?_)
  refine wpAny_bind (hcol _ fun h' tk vs hk hl hS hq => ?_)
  have hz : vs.length ≤ sizeLine := Nat.le_trans hl (by decide)
  refine wpAny_bind (wpAny_newList ?_ hz)
  have hoL : (h'.push (seqObj "list" vs.toArray 0)).get? h'.objs.size = some (seqObj "list" vs.toArray 0) := Heap.get?_push_size _ rfl
  show wpAny _ _ _ _ _ { s with heap := h'.push (seqObj "list" vs.toArray 0), toks := tk }
  refine wpAny_bind (wpAny_holding (wpAny_call_entry slot_list_sort ⟨_, hoL, rfl⟩ entry_list_sort (list_sort_ord O hoL hz hS fun out hs hb => ⟨_, rfl, ?_⟩) (args_list_sort _)))
  obtain ⟨n, hn⟩ := sortedHeap_at (vs := vs) (out := out.toArray) hoL
  refine wpAny_pure ⟨_, rfl, hq out _ n hs hb (fun b o e => ?_) hn⟩
  have hb' : b < h'.objs.size := Heap.lt_size e
  rw [sortedHeap_old (Nat.ne_of_lt hb') (by rw [size_push']; exact Nat.lt_succ_of_lt hb')]
  exact Heap.get?_push_of_some _ e
end
end K11

/-! K11T: sorted() as rules of the layer and on data. -/
namespace K11
open PySem PySem.Spec PyProof.Rows L2 SrtO

/-! ## the sorted list as a function -/
def leS (a b : Str) : Bool := !decide (b.cps.toList < a.cps.toList)
def leP (a b : Lk) : Bool := !ltP b a
def srtS (l : List Str) : List Str := l.mergeSort leS
def srtP (l : List Lk) : List Lk := l.mergeSort leP
theorem leS_iff {a b : Str} : leS a b = true ↔ ¬ b.cps.toList < a.cps.toList := by
  unfold leS
  rw [Bool.not_eq_true', decide_eq_false_iff_not]
theorem leP_iff {a b : Lk} : leP a b = true ↔ ltP b a = false := by
  unfold leP
  rw [Bool.not_eq_true']
theorem leS_anti {a b : Str} (h1 : leS a b = true) (h2 : leS b a = true) : a = b := nlt_both (leS_iff.mp h2) (leS_iff.mp h1)
theorem leS_trans (a b c : Str) (h1 : leS a b = true) (h2 : leS b c = true) : leS a c = true := leS_iff.mpr (nlt_trans (leS_iff.mp h1) (leS_iff.mp h2))
theorem leS_total (a b : Str) : (leS a b || leS b a) = true := by
  by_cases h : b.cps.toList < a.cps.toList
  · rw [Bool.or_eq_true, leS_iff, leS_iff]
    exact .inr (List.lt_asymm h)
  · rw [Bool.or_eq_true, leS_iff]
    exact .inl h
theorem leP_anti {a b : Lk} (h1 : leP a b = true) (h2 : leP b a = true) : a = b := by
  rw [leP_iff, ltP_no] at h1 h2
  have e := nlt_both h2.1 h1.1
  exact Prod.ext e (nlt_both (h2.2 e) (h1.2 e.symm))
theorem leP_trans (a b c : Lk) (h1 : leP a b = true) (h2 : leP b c = true) : leP a c = true := leP_iff.mpr (ltP_tr (leP_iff.mp h1) (leP_iff.mp h2))
theorem leP_total (a b : Lk) : (leP a b || leP b a) = true := by
  rw [Bool.or_eq_true, leP_iff, leP_iff]
  cases h : ltP b a with
  | false => exact .inl rfl
  | true => exact .inr (ltP_asym h)
theorem srtS_perm (l : List Str) : (srtS l).Perm l := List.mergeSort_perm l leS
theorem srtP_perm (l : List Lk) : (srtP l).Perm l := List.mergeSort_perm l leP
theorem srtS_pw (l : List Str) : (srtS l).Pairwise fun a b => leS a b = true := List.pairwise_mergeSort leS_trans leS_total l
theorem srtP_pw (l : List Lk) : (srtP l).Pairwise fun a b => leP a b = true := List.pairwise_mergeSort leP_trans leP_total l
theorem srtS_uniq {ys l : List Str} (p : ys.Perm l) (h : ys.Pairwise fun a b => leS a b = true) : ys = srtS l :=
  List.Perm.eq_of_pairwise (fun _ _ _ _ h1 h2 => leS_anti h1 h2) h (srtS_pw l) (p.trans (srtS_perm l).symm)
theorem srtP_uniq {ys l : List Lk} (p : ys.Perm l) (h : ys.Pairwise fun a b => leP a b = true) : ys = srtP l :=
  List.Perm.eq_of_pairwise (fun _ _ _ _ h1 h2 => leP_anti h1 h2) h (srtP_pw l) (p.trans (srtP_perm l).symm)
theorem srtS_len (l : List Str) : (srtS l).length = l.length := (srtS_perm l).length_eq
theorem srtP_len (l : List Lk) : (srtP l).length = l.length := (srtP_perm l).length_eq

/-! ## what comes out -/
def strOf (v : Value) : Str := match v with
  | .str x _ => x
  | _ => Str.empty
theorem strOf_of {ss : List Str} : ∀ {us : List Value}, Vals (ss.map V.str) us → us.map strOf = ss := by
  induction ss with
  | nil => intro us r; cases r; rfl
  | cons s ss ih =>
    intro us r
    cases r with
    | cons r1 r2 =>
      obtain ⟨t, e⟩ := r1
      subst e
      rw [List.map_cons, ih r2]
      rfl
theorem texts_of {ss : List Str} : ∀ {us : List Value}, Vals (ss.map V.str) us → ∀ v ∈ us, IsT v := by
  induction ss with
  | nil => intro us r v hv; cases r; cases hv
  | cons s ss ih =>
    intro us r v hv
    cases r with
    | cons r1 r2 =>
      rcases List.mem_cons.mp hv with e | hv
      · obtain ⟨t, e1⟩ := r1
        exact ⟨s, t, e.trans e1⟩
      · exact ih r2 v hv
theorem vals_texts : ∀ {us : List Value}, (∀ v ∈ us, IsT v) → Vals ((us.map strOf).map V.str) us
  | [], _ => .nil
  | u :: us, h => by
    obtain ⟨x, t, e⟩ := h u List.mem_cons_self
    subst e
    exact .cons ⟨t, rfl⟩ (vals_texts fun v hv => h v (List.mem_cons_of_mem _ hv))
theorem texts_out {ss : List Str} {us out : List Value} (r : Vals (ss.map V.str) us) (hs : Srtd ltT out) (p : out.Perm us) : Vals ((srtS ss).map V.str) out := by
  have ht : ∀ v ∈ out, IsT v := fun v hv => texts_of r v (p.mem_iff.mp hv)
  have e : out.map strOf = srtS ss := by
    refine srtS_uniq ?_ ?_
    · have q := p.map strOf
      rw [strOf_of r] at q
      exact q
    · rw [List.pairwise_map]
      refine hs.imp_of_mem fun {x y} hx hy h => ?_
      obtain ⟨a, t, rfl⟩ := ht x hx
      obtain ⟨b, u, rfl⟩ := ht y hy
      exact leS_iff.mpr (of_decide_eq_false h)
  rw [← e]
  exact vals_texts ht

theorem IsL.inj {h : Heap} {v : Value} {x y x' y' : Str} (a : IsL h v x y) (b : IsL h v x' y') : (x, y) = (x', y') := by
  obtain ⟨a1, o1, t1, u1, n1, e1, ho1, _, hd1⟩ := a
  obtain ⟨a2, o2, t2, u2, n2, e2, ho2, _, hd2⟩ := b
  rw [e1] at e2
  cases e2
  rw [ho1] at ho2
  cases ho2
  rw [hd1] at hd2
  simp only [Data.seq.injEq] at hd2
  have z := congrArg Array.toList hd2.1
  simp at z
  rw [z.1.1, z.2.1]
open Classical in
noncomputable def lkOf (h : Heap) (v : Value) : Lk := if q : ∃ p : Lk, IsL h v p.1 p.2 then choose q else (Str.empty, Str.empty)
theorem lkOf_eq {h : Heap} {v : Value} {p : Lk} (a : IsL h v p.1 p.2) : lkOf h v = p := by
  have q : ∃ p : Lk, IsL h v p.1 p.2 := ⟨p, a⟩
  unfold lkOf
  rw [dif_pos q]
  exact (Classical.choose_spec q).inj a
def vOf (v : Value) : V := match v with
  | .ref a => .ref a
  | _ => .non
theorem links_sorted {h : Heap} {ls : List Lk} {us out : List Value} (r : Paired (fun u (l : Lk) => IsL h u l.1 l.2) us ls) (hs : Srtd (fun v u => ltP (lkOf h v) (lkOf h u)) out) (p : out.Perm us) :
    out.map (lkOf h) = srtP ls ∧ ∀ u ∈ out, IsL h u (lkOf h u).1 (lkOf h u).2 := by
  have e1 : ∀ {us : List Value} {ls : List Lk}, Paired (fun u (l : Lk) => IsL h u l.1 l.2) us ls → us.map (lkOf h) = ls ∧ ∀ u ∈ us, IsL h u (lkOf h u).1 (lkOf h u).2 := by
    intro us ls r
    induction r with
    | nil => exact ⟨rfl, fun _ z => nomatch z⟩
    | cons a b ih =>
      refine ⟨by rw [List.map_cons, lkOf_eq a, ih.1], fun u hu => ?_⟩
      rcases List.mem_cons.mp hu with e | hu
      · rw [e, lkOf_eq a]
        exact a
      · exact ih.2 u hu
  obtain ⟨q1, q2⟩ := e1 r
  refine ⟨srtP_uniq ?_ ?_, fun u hu => q2 u (p.mem_iff.mp hu)⟩
  · have q := p.map (lkOf h)
    rw [q1] at q
    exact q
  · rw [List.pairwise_map]
    exact hs.imp fun {x y} z => leP_iff.mpr z

/-! ## the rules -/
def Coll (K : PySem.W.Frag) (H : Hp) (x : V) (ss : List Str) : Prop :=
  (∃ a, x = .ref a ∧ (SqL K H a (ss.map V.str) ∨ SqT K H a (ss.map V.str))) ∨ ∃ a kvs, x = .ref a ∧ H a = some (.dK kvs) ∧ kvs.map (·.1) = ss.map Sum.inr
def rSrtS (K : PySem.W.Frag) : List V → Hp → VK → Prop := fun xs H Q => ∃ x ss, xs = [x] ∧ Coll K H x ss ∧ ss.length ≤ 1000 ∧ ∀ p, H p = none → Q (.ref p) (upd H p (.lst ((srtS ss).map V.str)))
def LinksV (K : PySem.W.Frag) (H : Hp) (vs : List V) (ls : List Lk) : Prop := Paired (fun x (l : Lk) => ∃ t, x = V.ref t ∧ SqT K H t [.str l.1, .str l.2]) vs ls
def rSrtP (K : PySem.W.Frag) : List V → Hp → VK → Prop := fun xs H Q => ∃ a vs ls, xs = [.ref a] ∧ SqL K H a vs ∧ LinksV K H vs ls ∧ ls.length ≤ 1000 ∧
  ∀ (zs : List (V × Lk)) p, zs.Perm (vs.zip ls) → zs.map (·.2) = srtP ls → H p = none → Q (.ref p) (upd H p (.lst (zs.map (·.1))))
def rSrtT : List V → Hp → VK → Prop := fun xs H Q => ∃ a ls, xs = [.ref a] ∧ H a = some (.dT (ls.map fun q => (linkK q, .bl true))) ∧ ls.length ≤ 1000 ∧
  ∀ ts p, Paired (fun x (l : Lk) => ∃ t, x = V.ref t ∧ H t = some (.tup [.str l.1, .str l.2])) ts (srtP ls) → H p = none → Q (.ref p) (upd H p (.lst ts))

section
variable {X : Cx} {pins : List (Addr × Obj)} {σ : L2.St} {H : Hp} {s : Shared}
theorem isL_of (I : Inv X pins σ H s) {t : Addr} {l : Lk} (h : SqT X.K H t [.str l.1, .str l.2]) : IsL s.heap (.ref t) l.1 l.2 := by
  obtain ⟨its, rv, ⟨o, ho, hc, n, hd⟩, _⟩ := I.tuple h
  cases rv with
  | cons r1 r2 =>
    cases r2 with
    | cons r2 r3 =>
      cases r3
      obtain ⟨t1, e1⟩ := r1
      obtain ⟨t2, e2⟩ := r2
      subst e1 e2
      exact ⟨t, o, t1, t2, n, rfl, ho, hc, hd⟩
theorem call_srtS (hc : X.calm = true) : CallR X (.builtin "sorted") (rSrtS X.K) := by
  intro pins s σ H xs us Q I r h
  obtain ⟨x, ss, rfl, co, hl, q⟩ := h
  obtain ⟨u, rfl, ru⟩ := vals1 r
  have len : ∀ {vs : List Value}, Vals (ss.map V.str) vs → vs.length = ss.length := fun {vs} rv => by have := rv.length; rw [List.length_map] at this; exact this.symm
  have fin : ∀ (h' : Heap) (tk : Nat) (vs : List Value), Vals (ss.map V.str) vs → (∀ b o, s.heap.get? b = some o → h'.get? b = some o) → ∀ (out : List Value) (h2 : Heap) (n : Nat), Srtd ltT out → Stb ltT out vs →
      (∀ b o, h'.get? b = some o → h2.get? b = some o) → h2.get? h'.objs.size = some (seqObj "list" out.toArray n) → EP X pins σ Q (.ref h'.objs.size) { s with heap := h2, toks := tk } := by
    intro h' tk vs rv hk out h2 n hs hb hk2 hn
    have ro := texts_out rv hs hb.perm
    have I1 : Inv X pins σ H { s with heap := h', toks := tk } := I.kept hk
    refine ⟨.ref h'.objs.size, upd H h'.objs.size (.lst ((srtS ss).map V.str)), I1.laid (t' := tk) hk2 (Nat.le_refl _) ?_, rfl, q _ (I1.hok.fresh (Nat.le_refl _))⟩
    exact ⟨by rw [List.length_map, srtS_len]; exact Nat.le_of_lt (small1000 hl), out, n, ro, hn⟩
  rcases co with ⟨a, rfl, hL | hT⟩ | ⟨a, kvs, rfl, hd, hk⟩
  · cases ru
    obtain ⟨its, rv, pl, _⟩ := I.list hL
    refine sorted_of swoT fun R hR => collect_list pl.isList ?_ (by rw [len rv]; exact Nat.le_of_lt (small1000 hl))
    have hk : ∀ b o, s.heap.get? b = some o → ((s.heap.push (seqObj "list" #[] 0)).update s.heap.objs.size (Obj.mapSeq (· ++ its.toArray))).get? b = some o := fun b o e => by
      rw [Heap.get?_update_ne _ _ _ _ (Nat.ne_of_lt (Heap.lt_size e))]
      exact Heap.get?_push_of_some _ e
    exact hR _ s.toks its hk (by rw [len rv]; omega) (fun h2 => texts_sortable h2 (texts_of rv)) (fin _ s.toks its rv hk)
  · cases ru
    obtain ⟨its, rv, pt, _⟩ := I.tuple hT
    refine sorted_of swoT fun R hR => collectT (vs := its.toArray) pt (by rw [List.size_toArray, len rv]; exact Nat.le_of_lt (small1000 hl)) ?_
    have hk : ∀ b o, s.heap.get? b = some o → ((s.heap.push (seqObj "list" #[] 0)).update s.heap.objs.size (Obj.mapSeq (· ++ its.toArray))).get? b = some o := fun b o e => by
      rw [Heap.get?_update_ne _ _ _ _ (Nat.ne_of_lt (Heap.lt_size e))]
      exact Heap.get?_push_of_some _ e
    exact hR _ s.toks its hk (by rw [len rv]; omega) (fun h2 => texts_sortable h2 (texts_of rv)) (fin _ s.toks its rv hk)
  · cases ru
    obtain ⟨z, lo, vs, rel, dd⟩ := dk_of I.hok hd
    obtain ⟨ep, hat⟩ := dd.dictAt
    have hkeys : vs.map (·.1) = ss.map Sum.inr := rel.keys.symm.trans hk
    have hl2 : vs.length = ss.length := by
      have e := congrArg List.length hkeys
      rw [List.length_map, List.length_map] at e
      exact e
    refine sorted_of swoT fun R hR => PySem.W.kdu_collect (A := X.A.in1) (PySem.W.kdl_dict (knd := mixKind X.prog X.w) (kvs := vs) (ep := ep) lo) (I.ok.hd hc) hat (by rw [hl2]; exact Nat.le_of_lt (small1000 hl)) fun h' tk acc hk' hacc => ?_
    have rv : Vals (ss.map V.str) acc.toList := by
      have q1 := keys_at (us := acc.toList) (vs := vs) (by rw [Array.length_toList, hacc.1]) fun j v e => hacc.2 j v (by rw [← Array.getElem?_toList]; exact e)
      have e2 : (vs.map fun p => kV p.1) = ss.map V.str := by
        have e3 := congrArg (List.map kV) hkeys
        rw [List.map_map, List.map_map] at e3
        exact e3
      rw [e2] at q1
      exact q1
    exact hR h' tk acc.toList hk' (by rw [len rv]; omega) (fun h2 => texts_sortable h2 (texts_of rv)) (fin h' tk acc.toList rv hk')
theorem zip_links {K : PySem.W.Frag} {H : Hp} {h : Heap} : ∀ {vs : List V} {ls : List Lk} {us : List Value}, LinksV K H vs ls → Vals vs us → (∀ u ∈ us, ∀ (l : Lk), ∀ t, u = .ref t → SqT K H t [.str l.1, .str l.2] → IsL h u l.1 l.2) →
    Paired (fun u (l : Lk) => IsL h u l.1 l.2) us ls ∧ us.map (fun u => (vOf u, lkOf h u)) = vs.zip ls
  | _, _, _, .nil, .nil, _ => ⟨.nil, rfl⟩
  | _, _, _, .cons (a := x) (b := l) a b, .cons r rr, hp => by
    obtain ⟨t, e, hT⟩ := a
    subst e
    cases r
    have q := hp _ List.mem_cons_self l t rfl hT
    obtain ⟨i1, i2⟩ := zip_links b rr fun u hu => hp u (List.mem_cons_of_mem _ hu)
    refine ⟨.cons q i1, ?_⟩
    rw [List.map_cons, i2, lkOf_eq q]
    rfl
theorem vals_vOf : ∀ {us : List Value}, (∀ u ∈ us, ∃ t, u = Value.ref t) → Vals (us.map vOf) us
  | [], _ => .nil
  | u :: us, h => by
    obtain ⟨t, e⟩ := h u List.mem_cons_self
    subst e
    exact .cons rfl (vals_vOf fun v hv => h v (List.mem_cons_of_mem _ hv))
theorem call_srtP (hc : X.calm = true) : CallR X (.builtin "sorted") (rSrtP X.K) := by
  intro pins s σ H xs us Q I r h
  obtain ⟨a, vs, ls, rfl, hL, hk, hl, q⟩ := h
  obtain ⟨u, rfl, ru⟩ := vals1 r
  cases ru
  obtain ⟨its, rv, pl, _⟩ := I.list hL
  obtain ⟨z1, z2⟩ := zip_links (h := s.heap) hk rv fun u hu l t e hT => by
    subst e
    exact isL_of I hT
  have hlen : its.length = ls.length := Paired.length z1
  refine sorted_of (swoP (lkOf s.heap)) fun R hR => collect_list pl.isList ?_ (by rw [hlen]; exact Nat.le_of_lt (small1000 hl))
  have hk' : ∀ b o, s.heap.get? b = some o → ((s.heap.push (seqObj "list" #[] 0)).update s.heap.objs.size (Obj.mapSeq (· ++ its.toArray))).get? b = some o := fun b o e => by
    rw [Heap.get?_update_ne _ _ _ _ (Nat.ne_of_lt (Heap.lt_size e))]
    exact Heap.get?_push_of_some _ e
  have all : ∀ v ∈ its, IsL s.heap v (lkOf s.heap v).1 (lkOf s.heap v).2 := by
    have e1 : ∀ {us : List Value} {ls : List Lk}, Paired (fun u (l : Lk) => IsL s.heap u l.1 l.2) us ls → ∀ u ∈ us, IsL s.heap u (lkOf s.heap u).1 (lkOf s.heap u).2 := by
      intro us ls r
      induction r with
      | nil => exact fun _ z => nomatch z
      | cons a b ih =>
        intro u hu
        rcases List.mem_cons.mp hu with e | hu
        · rw [e, lkOf_eq a]
          exact a
        · exact ih u hu
    exact e1 z1
  refine hR _ s.toks its hk' (by omega) (fun h2 => ?_) ?_
  · refine links_sortable (s := { s with heap := _ }) (by omega) (fun v hv => (all v hv).keeps fun b o e _ => Heap.get?_push_of_some _ (hk' b o e)) fun o e => ?_
    rw [Heap.get?_push_size _ rfl] at e
    cases e
    intro c
    exact absurd (Value.type.inj c) (by decide)
  · intro out h2 n hs hb hk2 hn
    obtain ⟨g1, g2⟩ := links_sorted z1 hs hb.perm
    have I1 : Inv X pins σ H { s with heap := _ } := I.kept (t' := s.toks) hk'
    have ro : Vals ((out.map fun u => (vOf u, lkOf s.heap u)).map (·.1)) out := by
      rw [List.map_map]
      exact vals_vOf fun u hu => by
        obtain ⟨t, _, _, _, _, e, _⟩ := g2 u hu
        exact ⟨t, e⟩
    have I2 := I1.laid (a := ((s.heap.push (seqObj "list" #[] 0)).update s.heap.objs.size (Obj.mapSeq (· ++ its.toArray))).objs.size) (o := .lst ((out.map fun u => (vOf u, lkOf s.heap u)).map (·.1))) (t' := s.toks) hk2 (Nat.le_refl _)
      ⟨by rw [List.length_map, List.length_map, hb.perm.length_eq, hlen]; exact Nat.le_of_lt (small1000 hl), out, n, ro, hn⟩
    refine ⟨.ref _, _, I2, rfl, q (out.map fun u => (vOf u, lkOf s.heap u)) _ ?_ ?_ (I1.hok.fresh (Nat.le_refl _))⟩
    · rw [← z2]
      exact hb.perm.map _
    · rw [List.map_map]
      exact g1
theorem call_srtT (hc : X.calm = true) : CallR X (.builtin "sorted") rSrtT := by
  intro pins s σ H xs us Q I r h
  obtain ⟨a, ls, rfl, hd, hl, q⟩ := h
  obtain ⟨u, rfl, ru⟩ := vals1 r
  cases ru
  obtain ⟨_, lo, xs, rel, o, es, ep, ho, hex, hdat, hes, _⟩ := (show ObjOk X.prog X.w H s.heap a (.dT (ls.map fun q => (linkK q, .bl true))) from I.hok a _ hd)
  have hn : es.size = ls.length := by
    have e1 := congrArg List.length hes
    have e2 := Paired.length rel
    rw [Array.length_toList, List.length_map] at e1
    rw [List.length_map] at e2
    omega
  have at_ : ∀ (j : Nat) (hj : j < es.size), ∃ l t, ls[j]? = some l ∧ es[j].key = .ref t ∧ H t = some (.tup [.str l.1, .str l.2]) := by
    intro j hj
    have hj' : j < ls.length := by omega
    have gen : ∀ {ls : List Lk} {xs : List (List Key × Addr × Value)} {j : Nat} {l : Lk}, Paired (fun (p : List Key × V) (q : List Key × Addr × Value) => p.1 = q.1 ∧ H q.2.1 = some (.tup (p.1.map kV)) ∧ RelV p.2 q.2.2) (ls.map fun q => (linkK q, V.bl true)) xs → ls[j]? = some l →
        ∃ x, xs[j]? = some x ∧ H x.2.1 = some (.tup [.str l.1, .str l.2]) := by
      intro ls
      induction ls with
      | nil => intro xs j l _ h; simp at h
      | cons m ls ih =>
        intro xs j l r h
        cases r with
        | cons a b =>
          cases j with
          | zero => simp at h; subst h; exact ⟨_, rfl, a.2.1⟩
          | succ j => obtain ⟨x, h1, h2⟩ := ih b (by simpa using h); exact ⟨x, by simpa using h1, h2⟩
    obtain ⟨x, h1, h2⟩ := gen rel (List.getElem?_eq_getElem hj')
    refine ⟨ls[j], x.2.1, List.getElem?_eq_getElem hj', ?_, h2⟩
    have e := congrArg (fun l => l[j]?) hes
    simp only [Array.getElem?_toList, List.getElem?_map, h1, Option.map_some] at e
    rw [Array.getElem?_eq_getElem hj] at e
    rw [Option.some.inj e]
    rfl
  refine sorted_of (swoP (lkOf s.heap)) fun R hR => PySem.W.kdu_collect (A := X.A.in1) (PySem.KdlSrc.rawDict (es := es) (ep := ep) lo) (I.ok.hd hc) ⟨o, ho, hex, hdat⟩ (by rw [hn]; exact Nat.le_of_lt (small1000 hl)) fun h' tk acc hk' hacc => ?_
  have hsz : acc.toList.length = ls.length := by rw [Array.length_toList, hacc.1, hn]
  have ent : ∀ (j : Nat) v, acc.toList[j]? = some v → ∃ l t, ls[j]? = some l ∧ v = .ref t ∧ H t = some (.tup [.str l.1, .str l.2]) := fun j v e => by
    obtain ⟨hj, e2⟩ := hacc.2 j v (by rw [← Array.getElem?_toList]; exact e)
    obtain ⟨l, t, g1, g2, g3⟩ := at_ j hj
    exact ⟨l, t, g1, by rw [e2, g2], g3⟩
  have z1 : Paired (fun u (l : Lk) => IsL s.heap u l.1 l.2) acc.toList ls := by
    have gen : ∀ {us : List Value} {ls : List Lk}, us.length = ls.length → (∀ (j : Nat) v, us[j]? = some v → ∃ l, ls[j]? = some l ∧ IsL s.heap v l.1 l.2) → Paired (fun u (l : Lk) => IsL s.heap u l.1 l.2) us ls := by
      intro us
      induction us with
      | nil => intro ls h _; cases ls with
        | nil => exact .nil
        | cons _ _ => simp at h
      | cons u us ih =>
        intro ls h1 h2
        cases ls with
        | nil => simp at h1
        | cons l ls =>
          obtain ⟨l', e1, e2⟩ := h2 0 u rfl
          have : l = l' := by simpa using e1
          subst this
          exact .cons e2 (ih (by simpa using h1) fun j v e => by
            obtain ⟨l', e3, e4⟩ := h2 (j + 1) v (by simpa using e)
            exact ⟨l', by simpa using e3, e4⟩)
    exact gen hsz fun j v e => by
      obtain ⟨l, t, g1, g2, g3⟩ := ent j v e
      subst g2
      exact ⟨l, g1, isL_of I (.of g3)⟩
  have I1 : Inv X pins σ H { s with heap := h', toks := tk } := I.kept hk'
  have all : ∀ v ∈ acc.toList, IsL s.heap v (lkOf s.heap v).1 (lkOf s.heap v).2 ∧ ∃ t, v = .ref t ∧ H t = some (.tup [.str (lkOf s.heap v).1, .str (lkOf s.heap v).2]) := fun v hv => by
    obtain ⟨j, hj⟩ := List.getElem?_of_mem hv
    obtain ⟨l, t, g1, g2, g3⟩ := ent j v hj
    subst g2
    have q := isL_of I (.of g3)
    rw [lkOf_eq q]
    exact ⟨q, t, rfl, g3⟩
  refine hR h' tk acc.toList hk' (by omega) (fun h2 => ?_) ?_
  · refine links_sortable (s := { s with heap := h'.push (seqObj "list" acc.toList.toArray 0), toks := tk }) (by omega) (fun v hv => (all v hv).1.keeps fun b o e _ => Heap.get?_push_of_some _ (hk' b o e)) fun o e => ?_
    rw [Heap.get?_push_size _ rfl] at e
    cases e
    intro c
    exact absurd (Value.type.inj c) (by decide)
  · intro out h2 n hs hb hk2 hn
    obtain ⟨g1, g2⟩ := links_sorted z1 hs hb.perm
    have inacc : ∀ u ∈ out, u ∈ acc.toList := fun u hu => hb.perm.mem_iff.mp hu
    have ro : Vals (out.map vOf) out := vals_vOf fun u hu => by
      obtain ⟨_, t, e, _⟩ := all u (inacc u hu)
      exact ⟨t, e⟩
    have I2 := I1.laid (a := h'.objs.size) (o := .lst (out.map vOf)) (t' := tk) hk2 (Nat.le_refl _) ⟨by rw [List.length_map, hb.perm.length_eq, hsz]; exact Nat.le_of_lt (small1000 hl), out, n, ro, hn⟩
    refine ⟨.ref _, _, I2, rfl, q (out.map vOf) _ ?_ (I1.hok.fresh (Nat.le_refl _))⟩
    rw [← g1]
    have gen : ∀ {us : List Value}, (∀ u ∈ us, u ∈ acc.toList) → Paired (fun x (l : Lk) => ∃ t, x = V.ref t ∧ H t = some (.tup [.str l.1, .str l.2])) (us.map vOf) (us.map (lkOf s.heap)) := by
      intro us
      induction us with
      | nil => exact fun _ => .nil
      | cons u us ih =>
        intro h
        obtain ⟨_, t, e, g⟩ := all u (h u List.mem_cons_self)
        exact .cons ⟨t, by rw [e]; rfl, g⟩ (ih fun v hv => h v (List.mem_cons_of_mem _ hv))
    exact gen inacc
end
end K11

/-! K11G: more rules on data: dicts, texts, lists, types, equality. -/
namespace K11
open PySem PySem.Spec PyProof.Rows L2 SrtO

/-! ## data as the library's data -/
mutual
def D.py : D → PyData
  | .non => .none
  | .bl b => .bool b
  | .int i => .int i
  | .str s => .str s
  | .lst l => .list (D.pyAll l)
  | .nl l => .list (D.pyAll l)
  | .tup l => .tuple (D.pyAll l)
  | .dic _ => .none
  | .net _ _ _ => .none
  | .pot => .none
  | .ty _ => .none
  | .cls => .none
def D.pyAll : List D → List PyData
  | [] => []
  | d :: r => D.py d :: D.pyAll r
end
mutual
/-- no dict, no object; depth below n -/
def D.ok : Nat → D → Bool
  | _, .non => true
  | _, .bl _ => true
  | _, .int _ => true
  | _, .str s => PyData.strOk s
  | 0, .lst _ => false
  | n + 1, .lst l => D.okAll n l
  | 0, .nl _ => false
  | n + 1, .nl l => D.okAll n l
  | 0, .tup _ => false
  | n + 1, .tup l => D.okAll n l
  | _, .dic _ => false
  | _, .net _ _ _ => false
  | _, .pot => false
  | _, .ty _ => false
  | _, .cls => false
def D.okAll : Nat → List D → Bool
  | _, [] => true
  | n, d :: r => D.ok n d && D.okAll n r
end
section
variable {W : Wd} {H : Hp}
mutual
theorem Rep.dp : ∀ (n : Nat) (d : D) (v : V), d.ok n = true → Rep W H v d → Dp W.K H v d.py
  | _, .non, _, _, r => by cases r; exact .non
  | _, .bl b, _, _, r => by cases r; exact .bl b
  | _, .int i, _, _, r => by cases r; exact .int i
  | _, .str s, _, _, r => by cases r; exact .str s
  | 0, .lst l, _, h, _ => by simp [D.ok] at h
  | n + 1, .lst l, _, h, r => by
    cases r with
    | lst h1 rs => exact .lst (.of h1) (Reps.dp n l _ (by simpa [D.ok] using h) rs)
  | 0, .nl l, _, h, _ => by simp [D.ok] at h
  | n + 1, .nl l, _, h, r => by
    cases r with
    | nl h1 rs _ => exact .lst (.of h1) (Reps.dp n l _ (by simpa [D.ok] using h) rs)
  | 0, .tup l, _, h, _ => by simp [D.ok] at h
  | n + 1, .tup l, _, h, r => by
    cases r with
    | tup h1 rs => exact .tup h1.sq (Reps.dp n l _ (by simpa [D.ok] using h) rs)
  | _, .dic _, _, h, _ => by simp [D.ok] at h
  | _, .net _ _ _, _, h, _ => by simp [D.ok] at h
  | _, .pot, _, h, _ => by simp [D.ok] at h
  | _, .ty _, _, h, _ => by simp [D.ok] at h
  | _, .cls, _, h, _ => by simp [D.ok] at h
theorem Reps.dp : ∀ (n : Nat) (d : List D) (v : List V), D.okAll n d = true → Reps W H v d → DpAll W.K H v (D.pyAll d)
  | _, [], _, _, r => by cases r; exact .nil
  | n, d :: ds, _, h, r => by
    cases r with
    | cons r1 r2 =>
      have h' : D.ok n d = true ∧ D.okAll n ds = true := by simpa [D.okAll] using h
      exact .cons (Rep.dp n d _ h'.1 r1) (Reps.dp n ds _ h'.2 r2)
end
end
mutual
theorem py_lay : ∀ (n : Nat) (d : D), d.ok n = true → d.py.canLay0 = true ∧ d.py.depth ≤ n
  | _, .non, _ => ⟨rfl, Nat.zero_le _⟩
  | _, .bl b, _ => ⟨rfl, Nat.zero_le _⟩
  | _, .int i, _ => ⟨rfl, Nat.zero_le _⟩
  | _, .str s, h => ⟨by simpa [D.ok, D.py, PyData.canLay0] using h, Nat.zero_le _⟩
  | 0, .lst l, h => by simp [D.ok] at h
  | n + 1, .lst l, h => by
    obtain ⟨h1, h2⟩ := py_layAll n l (by simpa [D.ok] using h)
    exact ⟨by simpa [D.py, PyData.canLay0] using h1, Nat.succ_le_succ h2⟩
  | 0, .nl l, h => by simp [D.ok] at h
  | n + 1, .nl l, h => by
    obtain ⟨h1, h2⟩ := py_layAll n l (by simpa [D.ok] using h)
    exact ⟨by simpa [D.py, PyData.canLay0] using h1, Nat.succ_le_succ h2⟩
  | 0, .tup l, h => by simp [D.ok] at h
  | n + 1, .tup l, h => by
    obtain ⟨h1, h2⟩ := py_layAll n l (by simpa [D.ok] using h)
    exact ⟨by simpa [D.py, PyData.canLay0] using h1, Nat.succ_le_succ h2⟩
  | _, .dic _, h => by simp [D.ok] at h
  | _, .net _ _ _, h => by simp [D.ok] at h
  | _, .pot, h => by simp [D.ok] at h
  | _, .ty _, h => by simp [D.ok] at h
  | _, .cls, h => by simp [D.ok] at h
theorem py_layAll : ∀ (n : Nat) (l : List D), D.okAll n l = true → PyData.canLayAll0 (D.pyAll l) = true ∧ PyData.depthAll (D.pyAll l) ≤ n
  | _, [], _ => ⟨rfl, Nat.zero_le _⟩
  | n, d :: r, h => by
    have h' : D.ok n d = true ∧ D.okAll n r = true := by simpa [D.okAll] using h
    obtain ⟨a1, a2⟩ := py_lay n d h'.1
    obtain ⟨b1, b2⟩ := py_layAll n r h'.2
    exact ⟨by simp [D.pyAll, PyData.canLayAll0, a1, b1], Nat.max_le.mpr ⟨a2, b2⟩⟩
end
theorem py_shaped {n : Nat} {d : D} (hn : n ≤ 64) (h : d.ok n = true) : SeqAt.shaped d.py = true := by
  obtain ⟨h1, h2⟩ := py_lay n d h
  unfold SeqAt.shaped
  simp [h1]
  omega
mutual
/-- no bool, no new list within -/
def D.nob : D → Bool
  | .bl _ => false
  | .lst l => D.nobAll l
  | .tup l => D.nobAll l
  | .nl _ => false
  | .dic _ => false
  | .net _ _ _ => false
  | .pot => false
  | .ty _ => false
  | .cls => false
  | _ => true
def D.nobAll : List D → Bool
  | [] => true
  | d :: r => D.nob d && D.nobAll r
end
mutual
theorem eqv_iff : ∀ (d e : D), d.nob = true → e.nob = true → (PyData.eqv d.py e.py = true ↔ d = e)
  | .non, e, _, he => by cases e <;> simp [D.py, D.nob, PyData.eqv] at he ⊢
  | .bl _, e, hd, _ => by simp [D.nob] at hd
  | .int i, e, _, he => by cases e <;> simp [D.py, D.nob, PyData.eqv] at he ⊢
  | .str i, e, _, he => by cases e <;> simp [D.py, D.nob, PyData.eqv] at he ⊢
  | .lst l, .lst m, hd, he => by
    have := eqvAll_iff l m (by simpa [D.nob] using hd) (by simpa [D.nob] using he)
    simpa [D.py, PyData.eqv] using this
  | .tup l, .tup m, hd, he => by
    have := eqvAll_iff l m (by simpa [D.nob] using hd) (by simpa [D.nob] using he)
    simpa [D.py, PyData.eqv] using this
  | .lst l, .non, _, _ | .lst l, .int _, _, _ | .lst l, .str _, _, _ | .lst l, .tup _, _, _ => by simp [D.py, PyData.eqv]
  | .tup l, .non, _, _ | .tup l, .int _, _, _ | .tup l, .str _, _, _ | .tup l, .lst _, _, _ => by simp [D.py, PyData.eqv]
  | .lst l, .bl _, _, he | .lst l, .nl _, _, he | .lst l, .dic _, _, he | .lst l, .net _ _ _, _, he | .lst l, .pot, _, he | .lst l, .ty _, _, he | .lst l, .cls, _, he => by simp [D.nob] at he
  | .tup l, .bl _, _, he | .tup l, .nl _, _, he | .tup l, .dic _, _, he | .tup l, .net _ _ _, _, he | .tup l, .pot, _, he | .tup l, .ty _, _, he | .tup l, .cls, _, he => by simp [D.nob] at he
  | .nl _, e, hd, _ => by simp [D.nob] at hd
  | .dic _, e, hd, _ => by simp [D.nob] at hd
  | .net _ _ _, e, hd, _ => by simp [D.nob] at hd
  | .pot, e, hd, _ => by simp [D.nob] at hd
  | .ty _, e, hd, _ => by simp [D.nob] at hd
  | .cls, e, hd, _ => by simp [D.nob] at hd
theorem eqvAll_iff : ∀ (d e : List D), D.nobAll d = true → D.nobAll e = true → (PyData.eqvAll (D.pyAll d) (D.pyAll e) = true ↔ d = e)
  | [], [], _, _ => by simp [D.pyAll, PyData.eqvAll]
  | [], _ :: _, _, _ => by simp [D.pyAll, PyData.eqvAll]
  | _ :: _, [], _, _ => by simp [D.pyAll, PyData.eqvAll]
  | d :: ds, e :: es, hd, he => by
    have hd' : d.nob = true ∧ D.nobAll ds = true := by simpa [D.nobAll] using hd
    have he' : e.nob = true ∧ D.nobAll es = true := by simpa [D.nobAll] using he
    have a := eqv_iff d e hd'.1 he'.1
    have b := eqvAll_iff ds es hd'.2 he'.2
    simp only [D.pyAll, PyData.eqvAll, Bool.and_eq_true, a, b, List.cons.injEq]
end

/-! shapes at hand -/
theorem ok_str (n : Nat) {s : Str} (h : PyData.strOk s = true) : (D.str s).ok n = true := by cases n <;> simpa [D.ok] using h
theorem nob_sS : ∀ (l : List Str), D.nobAll (sS l) = true
  | [] => by simp [sS, D.nobAll]
  | s :: l => by
    have := nob_sS l
    unfold sS at this ⊢
    rw [List.map_cons, D.nobAll, this]
    rfl
theorem ok_map {α : Type} {n : Nat} {f : α → D} : ∀ {l : List α}, (∀ a ∈ l, D.ok n (f a) = true) → D.okAll n (l.map f) = true
  | [], _ => by simp [D.okAll]
  | a :: l, h => by rw [List.map_cons, D.okAll, h a List.mem_cons_self, ok_map fun b hb => h b (List.mem_cons_of_mem _ hb)]; rfl
theorem nob_map {α : Type} {f : α → D} : ∀ {l : List α}, (∀ a ∈ l, D.nob (f a) = true) → D.nobAll (l.map f) = true
  | [], _ => by simp [D.nobAll]
  | a :: l, h => by rw [List.map_cons, D.nobAll, h a List.mem_cons_self, nob_map fun b hb => h b (List.mem_cons_of_mem _ hb)]; rfl
theorem ok_sS {n : Nat} {l : List Str} (h : ∀ s ∈ l, PyData.strOk s = true) : D.okAll n (sS l) = true := ok_map fun s hs => ok_str n (h s hs)
theorem ok_dP (n : Nat) {p : Lk} (h1 : PyData.strOk p.1 = true) (h2 : PyData.strOk p.2 = true) : (dP p).ok (n + 1) = true := by
  unfold dP
  simp [D.ok, D.okAll]
  exact ⟨h1, h2⟩
theorem nob_dP (p : Lk) : (dP p).nob = true := rfl
theorem ok_dPs {n : Nat} {l : List Lk} (h : ∀ p ∈ l, PyData.strOk p.1 = true ∧ PyData.strOk p.2 = true) : D.okAll (n + 1) (dPs l) = true := ok_map fun p hp => ok_dP n (h p hp).1 (h p hp).2
theorem nob_dPs (l : List Lk) : D.nobAll (dPs l) = true := nob_map fun p _ => nob_dP p
theorem sS_inj {a b : List Str} : sS a = sS b ↔ a = b := by
  refine ⟨fun h => ?_, fun h => by rw [h]⟩
  exact (List.map_inj_right (f := D.str) (by intro x y e; exact D.str.inj e)).mp h
theorem dP_inj {a b : Lk} : dP a = dP b ↔ a = b := by
  refine ⟨fun h => ?_, fun h => by rw [h]⟩
  unfold dP at h
  simp only [D.tup.injEq, List.cons.injEq, D.str.injEq, and_true] at h
  exact Prod.ext h.1 h.2
theorem dPs_inj {a b : List Lk} : dPs a = dPs b ↔ a = b := by
  refine ⟨fun h => ?_, fun h => by rw [h]⟩
  exact (List.map_inj_right (f := dP) (by intro x y e; exact dP_inj.mp e)).mp h
end K11

/-! K11H: rules on data, further: in, ==, list(), tuple(), all, any, dicts, isinstance, sorted. -/
namespace K11
open PySem PySem.Spec PyProof.Rows L2 SrtO

section
variable {B : Bs} {Γ : Ctx} {R : D → Prop} {te ta tb td ty tx : TE} {tt : TT} {P : Po}

/-! ## in -/
theorem inV_strs {s : Str} : ∀ {l : List Str}, inV (.str s) (l.map V.str) = decide (s ∈ l)
  | [] => by simp [inV]
  | a :: l => by
    have ih := inV_strs (s := s) (l := l)
    unfold inV at ih ⊢
    rw [List.map_cons, List.any_cons, ih]
    by_cases e : s = a
    · subst e
      simp [eqV]
    · have e' : ¬ a = s := fun z => e z.symm
      simp [eqV, e, e']
theorem flat_strs (l : List Str) : (l.map V.str).all flatV = true := by
  rw [List.all_map, List.all_eq_true]
  intro x _
  rfl
theorem v2_inL {neg : Bool} {s : Str} {l : List Str} (q : R (.bl (if neg then !decide (s ∈ l) else decide (s ∈ l)))) : V2 B (rIn B.W.K neg) (.str s) (.lst (sS l)) R := by
  refine v2_same (fun M H v u r1 r2 Q k => ?_) q
  cases r2 with
  | lst h1 rs =>
    rw [r1.str_inv]
    have e := rs.strs
    subst e
    refine ⟨_, _, rfl, .inl (.of (cut_some.mp h1).2), rfl, flat_strs l, ?_⟩
    rw [inV_strs]
    exact k _ (.bl _)
theorem v2_inT {neg : Bool} {s : Str} {l : List Str} (q : R (.bl (if neg then !decide (s ∈ l) else decide (s ∈ l)))) : V2 B (rIn B.W.K neg) (.str s) (.tup (sS l)) R := by
  refine v2_same (fun M H v u r1 r2 Q k => ?_) q
  cases r2 with
  | tup h1 rs =>
    rw [r1.str_inv]
    have e := rs.strs
    subst e
    refine ⟨_, _, rfl, .inr (same_t cut_same h1.sq), rfl, flat_strs l, ?_⟩
    rw [inV_strs]
    exact k _ (.bl _)
theorem v2_nl {r : R2} {x : D} {l : List D} (h : V2 B r x (.lst l) R) : V2 B r x (.nl l) R := fun M H v u r1 r2 a b c Q k => h M H v u r1 r2.nl_lst a b c Q k
theorem any_eqv {d : D} (hd : d.nob = true) : ∀ {l : List D}, D.nobAll l = true → ((D.pyAll l).any (fun z => PyData.eqv z d.py) = true ↔ d ∈ l)
  | [], _ => by simp [D.pyAll]
  | e :: l, h => by
    have h' : e.nob = true ∧ D.nobAll l = true := by simpa [D.nobAll] using h
    rw [D.pyAll, List.any_cons, Bool.or_eq_true, eqv_iff e d h'.1 hd, any_eqv hd h'.2, List.mem_cons]
    exact or_congr_left ⟨fun z => z.symm, fun z => z.symm⟩
theorem rep_dp {M : Addr → Prop} {H : Hp} {n : Nat} {d : D} {v : V} (h : d.ok n = true) (r : Rep B.W (cut M H) v d) : Dp B.W.K H v d.py := Rep.dp n d v h (r.mono cut_same)
theorem v2_inD {d : D} {l : List D} (h1 : d.ok 10 = true) (h2 : D.okAll 10 l = true) (n1 : d.nob = true) (n2 : D.nobAll l = true) (q : ∀ b : Bool, (b = true ↔ d ∈ l) → R (.bl b)) : V2 B (rInD B.W.K) d (.lst l) R :=
  v2_same (fun M H v u r1 r2 Q k => ⟨d.py, D.pyAll l, rep_dp h1 r1, rep_dp (n := 11) (by simpa [D.ok] using h2) r2, py_shaped (n := 10) (by decide) h1, py_shaped (n := 11) (d := .lst l) (by decide) (by simpa [D.ok] using h2), k _ (.bl _)⟩) (q _ (any_eqv n1 n2))
theorem v2_ninD {d : D} {l : List D} (h1 : d.ok 10 = true) (h2 : D.okAll 10 l = true) (n1 : d.nob = true) (n2 : D.nobAll l = true) (q : ∀ b : Bool, (b = true ↔ d ∈ l) → R (.bl (!b))) : V2 B (rNotInD B.W.K) d (.lst l) R :=
  v2_same (fun M H v u r1 r2 Q k => ⟨d.py, D.pyAll l, rep_dp h1 r1, rep_dp (n := 11) (by simpa [D.ok] using h2) r2, py_shaped (n := 10) (by decide) h1, py_shaped (n := 11) (d := .lst l) (by decide) (by simpa [D.ok] using h2), k _ (.bl _)⟩) (q _ (any_eqv n1 n2))
/-! ## == of data -/
theorem v2_eqD {d e : D} (h1 : d.ok 10 = true) (h2 : e.ok 10 = true) (n1 : d.nob = true) (n2 : e.nob = true) (q : ∀ b : Bool, (b = true ↔ d = e) → R (.bl b)) : V2 B (rEqD B.W.K) d e R :=
  v2_same (fun M H v u r1 r2 Q k => ⟨d.py, e.py, rep_dp h1 r1, rep_dp h2 r2, py_shaped (n := 10) (by decide) h1, py_shaped (n := 10) (by decide) h2, k _ (.bl _)⟩) (q _ (eqv_iff d e n1 n2))
theorem v2_neD {d e : D} (h1 : d.ok 10 = true) (h2 : e.ok 10 = true) (n1 : d.nob = true) (n2 : e.nob = true) (q : ∀ b : Bool, (b = true ↔ d = e) → R (.bl (!b))) : V2 B (rNeD B.W.K) d e R :=
  v2_same (fun M H v u r1 r2 Q k => ⟨d.py, e.py, rep_dp h1 r1, rep_dp h2 r2, py_shaped (n := 10) (by decide) h1, py_shaped (n := 10) (by decide) h2, k _ (.bl _)⟩) (q _ (eqv_iff d e n1 n2))

/-! ## texts -/
theorem v2_ltS {a b : Str} (q : R (.bl (decide (a.cps.toList < b.cps.toList)))) : V2 B (fun x y H Q => ∃ i j, x = .str i ∧ y = .str j ∧ Q (.bl (decide (i.cps.toList < j.cps.toList))) H) (.str a) (.str b) R :=
  v2_same (fun M H v u r1 r2 Q k => ⟨a, b, r1.str_inv, r2.str_inv, k _ (.bl _)⟩) q
theorem v2_leS {a b : Str} (q : R (.bl (!decide (b.cps.toList < a.cps.toList)))) : V2 B (fun x y H Q => ∃ i j, x = .str i ∧ y = .str j ∧ Q (.bl (!decide (j.cps.toList < i.cps.toList))) H) (.str a) (.str b) R :=
  v2_same (fun M H v u r1 r2 Q k => ⟨a, b, r1.str_inv, r2.str_inv, k _ (.bl _)⟩) q
theorem v2_nsign {c : Nat} {z : Str} (q : R (.bl (!decide (c ∈ z.cps.toList)))) : V2 B (fun x y H Q => ∃ (c : Nat) (z : Str), x = .str ⟨#[c]⟩ ∧ y = .str z ∧ Q (.bl (!decide (c ∈ z.cps.toList))) H) (.str ⟨#[c]⟩) (.str z) R :=
  v2_same (fun M H v u r1 r2 Q k => ⟨c, z, r1.str_inv, r2.str_inv, k _ (.bl _)⟩) q
theorem v2_isB {a b : Bool} (q : R (.bl (decide (a = b)))) : V2 B (fun x y H Q => ∃ a b, x = .bl a ∧ y = .bl b ∧ Q (.bl (decide (a = b))) H) (.bl a) (.bl b) R :=
  v2_same (fun M H v u r1 r2 Q k => ⟨a, b, r1.bl_inv, r2.bl_inv, k _ (.bl _)⟩) q
theorem vc_lenS {z : Str} (hl : z.length ≤ 1000) (q : R (.int z.length)) : VC B (fun xs H Q => ∃ z, xs = [.str z] ∧ z.length ≤ sizeLine ∧ Q (.int z.length) H) [.str z] R := fun M H v r _ _ _ Q k => by
  cases r with
  | cons r1 r2 =>
    cases r2
    exact ⟨z, by rw [r1.str_inv], Nat.le_of_lt (small1000 hl), k _ H _ (fun _ _ => rfl) (Same.refl H) (.int _) q⟩
theorem we_join {r : V → List V → Hp → VK → Prop} (hr : r = fun x xs H Q => ∃ a p, ∃ ys : List Str, x = .str a ∧ xs = [.ref p] ∧ (SqL B.W.K H p (ys.map V.str) ∨ SqT B.W.K H p (ys.map V.str)) ∧ (ys.map (·.length)).sum + ys.length * a.length ≤ 16777216 ∧ Q (.str (Txt.join a ys)) H)
    (h : WE B ta Γ fun d => ∃ a, d = .str a ∧ WE B te Γ fun e => ∃ ys, e = .lst (sS ys) ∧ (ys.map (·.length)).sum + ys.length * a.length ≤ 16777216 ∧ R (.str (Txt.join a ys))) : WE B (tM1 r ta te) Γ R := fun M σ H S Q q => by
  subst hr
  refine h M σ H S _ fun v H1 d S1 x r1 ⟨a, hd, h2⟩ => ?_
  subst hd
  refine ⟨⟨a, r1.str_inv⟩, h2 M σ H1 S1 _ fun u H2 e S2 x2 r2 ⟨ys, he, hl, hr⟩ => ?_⟩
  subst he
  cases r2 with
  | lst h1 rs =>
    have e := rs.strs
    subst e
    exact ⟨a, _, ys, r1.str_inv, rfl, .inl (.of (cut_some.mp h1).2), hl, q _ H2 _ S2 (x.trans x2) (.str _) hr⟩
theorem we_upper {r : V → List V → Hp → VK → Prop} (hr : r = fun x xs H Q => ∃ a, x = .str a ∧ xs = [] ∧ a.length ≤ 5592405 ∧ Q (.str (Txt.upper a)) H) (h : WE B ta Γ fun d => ∃ a, d = .str a ∧ a.length ≤ 1000 ∧ R (.str (Txt.upper a))) : WE B (tM0 r ta) Γ R := fun M σ H S Q q => by
  subst hr
  refine h M σ H S _ fun v H1 d S1 x r1 ⟨a, hd, hl, hR⟩ => ?_
  subst hd
  exact ⟨⟨a, r1.str_inv⟩, a, r1.str_inv, rfl, by omega, q _ H1 _ S1 x (.str _) hR⟩

/-! ## calls of built-ins -/
theorem vc_abs {i : Int} (q : R (.int (if i < 0 then -i else i))) : VC B (fun xs H Q => ∃ i, xs = [.int i] ∧ Q (.int (if i < 0 then -i else i)) H) [.int i] R := fun M H v r _ _ _ Q k => by
  cases r with
  | cons r1 r2 => cases r2; exact ⟨i, by rw [r1.int_inv], k _ H _ (fun _ _ => rfl) (Same.refl H) (.int _) q⟩
theorem vc_max2 {i j : Int} (q : R (.int (if j > i then j else i))) : VC B (fun xs H Q => ∃ i j, xs = [.int i, .int j] ∧ Q (.int (if j > i then j else i)) H) [.int i, .int j] R := fun M H v r _ _ _ Q k => by
  cases r with
  | cons r1 r2 => cases r2 with
    | cons r2 r3 => cases r3; exact ⟨i, j, by rw [r1.int_inv, r2.int_inv], k _ H _ (fun _ _ => rfl) (Same.refl H) (.int _) q⟩
theorem vc_min2 {i j : Int} (q : R (.int (if j < i then j else i))) : VC B (fun xs H Q => ∃ i j, xs = [.int i, .int j] ∧ Q (.int (if j < i then j else i)) H) [.int i, .int j] R := fun M H v r _ _ _ Q k => by
  cases r with
  | cons r1 r2 => cases r2 with
    | cons r2 r3 => cases r3; exact ⟨i, j, by rw [r1.int_inv, r2.int_inv], k _ H _ (fun _ _ => rfl) (Same.refl H) (.int _) q⟩
theorem vc_int1 {i : Int} (q : R (.int i)) : VC B (fun xs H Q => (∃ i, xs = [.int i] ∧ Q (.int i) H) ∨ ∃ k, xs = [.bl k] ∧ Q (.int (if k then 1 else 0)) H) [.int i] R := fun M H v r _ _ _ Q k => by
  cases r with
  | cons r1 r2 => cases r2; exact .inl ⟨i, by rw [r1.int_inv], k _ H _ (fun _ _ => rfl) (Same.refl H) (.int _) q⟩
theorem vc_all {l : List Bool} (q : R (.bl (l.all id))) : VC B (rAll B.W.K) [.lst (sB l)] R := fun M H v r _ _ _ Q k => by
  cases r with
  | cons r1 r2 => cases r2; cases r1 with
    | lst h1 rs =>
      have e := rs.bools
      subst e
      exact ⟨_, l, rfl, .of (cut_some.mp h1).2, k _ H _ (fun _ _ => rfl) (Same.refl H) (.bl _) q⟩
theorem vc_any {l : List Bool} (q : R (.bl (l.any id))) : VC B (rAny B.W.K) [.lst (sB l)] R := fun M H v r _ _ _ Q k => by
  cases r with
  | cons r1 r2 => cases r2; cases r1 with
    | lst h1 rs =>
      have e := rs.bools
      subst e
      exact ⟨_, l, rfl, .of (cut_some.mp h1).2, k _ H _ (fun _ _ => rfl) (Same.refl H) (.bl _) q⟩
def rList (K : PySem.W.Frag) : List V → Hp → VK → Prop := fun xs H Q => ∃ p ys, xs = [.ref p] ∧ (SqL K H p ys ∨ SqT K H p ys) ∧ ∀ l, H l = none → Q (.ref l) (upd H l (.lst ys))
theorem call_list2 {X : Cx} : CallR X (.type "list") (rList X.K) := call_list_of
theorem vco_listT {l : List D} {R : List D → Prop} (q : R l) : VCO B (rList B.W.K) [.tup l] R := fun M H v r _ _ _ Q k => by
  cases r with
  | cons r1 r2 => cases r2; cases r1 with
    | tup h1 rs => exact ⟨_, _, rfl, .inr (same_t cut_same h1.sq), fun p hp => k p _ _ _ hp rfl rs q⟩
theorem vco_listL {l : List D} {R : List D → Prop} (q : R l) : VCO B (rList B.W.K) [.lst l] R := fun M H v r _ _ _ Q k => by
  cases r with
  | cons r1 r2 => cases r2; cases r1 with
    | lst h1 rs => exact ⟨_, _, rfl, .inl (.of (cut_some.mp h1).2), fun p hp => k p _ _ _ hp rfl rs q⟩
def rTuple (K : PySem.W.Frag) : List V → Hp → VK → Prop := fun xs H Q => ∃ p ys, xs = [.ref p] ∧ ((SqL K H p ys ∧ ∀ l, H l = none → Q (.ref l) (upd H l (.tup ys))) ∨ (SqT K H p ys ∧ Q (.ref p) H))
theorem call_tuple2 {X : Cx} : CallR X (.type "tuple") (rTuple X.K) := call_tuple_of
theorem vc_tupleL {l : List D} (q : R (.tup l)) : VC B (rTuple B.W.K) [.lst l] R := fun M H v r _ dm _ Q k => by
  cases r with
  | cons r1 r2 => cases r2; cases r1 with
    | lst h1 rs =>
      refine ⟨_, _, rfl, .inl ⟨.of (cut_some.mp h1).2, fun p hp => ?_⟩⟩
      exact k _ _ _ (fun m hm => upd_ne fun z => dm m hm (z ▸ hp)) (same_new hp) (.tup (.inl (cut_some.mpr ⟨fun z => dm p z hp, upd_same⟩)) (rs.mono (cut_alloc' hp))) q

/-! ## sorted -/
def rSrt (K : PySem.W.Frag) : List V → Hp → VK → Prop := fun xs H Q => rSrtS K xs H Q ∨ rSrtP K xs H Q
theorem call_srt {X : Cx} (hc : X.calm = true) : CallR X (.builtin "sorted") (rSrt X.K) := (call_srtS hc).or (call_srtP hc)
theorem vco_srtS {l : List Str} {R : List D → Prop} (hl : l.length ≤ 1000) (q : R (sS (srtS l))) : VCO B (rSrt B.W.K) [.lst (sS l)] R := fun M H v r _ _ _ Q k => by
  cases r with
  | cons r1 r2 => cases r2; cases r1 with
    | lst h1 rs =>
      have e := rs.strs
      subst e
      exact .inl ⟨_, l, rfl, .inl ⟨_, rfl, .inl (.of (cut_some.mp h1).2)⟩, hl, fun p hp => k p _ _ _ hp rfl (Reps.of_strs _) q⟩
theorem vco_srtT {l : List Str} {R : List D → Prop} (hl : l.length ≤ 1000) (q : R (sS (srtS l))) : VCO B (rSrt B.W.K) [.tup (sS l)] R := fun M H v r _ _ _ Q k => by
  cases r with
  | cons r1 r2 => cases r2; cases r1 with
    | tup h1 rs =>
      have e := rs.strs
      subst e
      exact .inl ⟨_, l, rfl, .inl ⟨_, rfl, .inr (same_t cut_same h1.sq)⟩, hl, fun p hp => k p _ _ _ hp rfl (Reps.of_strs _) q⟩
theorem dP_inv {W : Wd} {H : Hp} {v : V} {p : Lk} (r : Rep W H v (dP p)) : ∃ t, v = .ref t ∧ H t = some (.tup [.str p.1, .str p.2]) := by
  cases r with
  | tup h1 rs =>
    cases rs with
    | cons a rs => cases rs with
      | cons b rs => cases rs; rw [a.str_inv, b.str_inv] at h1; exact ⟨_, rfl, h1.at_⟩
theorem links_inv {W : Wd} {H : Hp} : ∀ {vs : List V} {l : List Lk}, Reps W H vs (dPs l) → Paired (fun x (p : Lk) => ∃ t, x = V.ref t ∧ H t = some (.tup [.str p.1, .str p.2])) vs l
  | _, [], h => by cases h; exact .nil
  | _, p :: l, h => by
    cases h with
    | cons a r => exact .cons (dP_inv a) (links_inv (l := l) r)
theorem links_rep {W : Wd} {H : Hp} : ∀ {vs : List V} {l : List Lk}, Paired (fun x (p : Lk) => ∃ t, x = V.ref t ∧ H t = some (.tup [.str p.1, .str p.2])) vs l → Reps W H vs (dPs l)
  | _, _, .nil => .nil
  | _, _, .cons a r => by
    obtain ⟨t, e, h⟩ := a
    subst e
    exact .cons (.tup (.inl h) (.cons (.str _) (.cons (.str _) .nil))) (links_rep r)
theorem vco_srtP {l : List Lk} {R : List D → Prop} (hl : l.length ≤ 1000) (q : R (dPs (srtP l))) : VCO B (rSrt B.W.K) [.lst (dPs l)] R := fun M H v r _ _ _ Q k => by
  cases r with
  | cons r1 r2 => cases r2; cases r1 with
    | lst h1 rs =>
      rename_i a vs
      have lv := links_inv rs
      have toV : ∀ {vs : List V} {l : List Lk}, Paired (fun x (p : Lk) => ∃ t, x = V.ref t ∧ cut M H t = some (.tup [.str p.1, .str p.2])) vs l → LinksV B.W.K H vs l := by
        intro vs l r
        induction r with
        | nil => exact .nil
        | cons a _ ih => obtain ⟨t, e, h⟩ := a; exact .cons ⟨t, e, .of (cut_some.mp h).2⟩ ih
      refine .inr ⟨_, vs, l, rfl, .of (cut_some.mp h1).2, toV lv, hl, fun zs p hz he hp => k p _ _ _ hp rfl ?_ q⟩
      have memz : ∀ z ∈ vs.zip l, ∃ t, z.1 = V.ref t ∧ cut M H t = some (.tup [.str z.2.1, .str z.2.2]) := by
        clear hz he k q h1 rs hl
        intro z hz
        induction lv with
        | nil => cases hz
        | cons a _ ih =>
          rcases List.mem_cons.mp hz with e | hz
          · rw [e]; exact a
          · exact ih hz
      have gen : ∀ {zs : List (V × Lk)}, (∀ z ∈ zs, z ∈ vs.zip l) → Paired (fun x (p : Lk) => ∃ t, x = V.ref t ∧ cut M H t = some (.tup [.str p.1, .str p.2])) (zs.map (·.1)) (zs.map (·.2)) := by
        intro zs
        induction zs with
        | nil => exact fun _ => .nil
        | cons z zs ih => exact fun h => .cons (memz z (h z List.mem_cons_self)) (ih fun y hy => h y (List.mem_cons_of_mem _ hy))
      rw [← he]
      exact links_rep (gen fun z hz' => hz.mem_iff.mp hz')

/-! ## dicts -/
theorem dget_at {M : Addr → Prop} {H : Hp} {a : Addr} {kvs : List (Key × V)} {l : List (Str × D)} (h : cut M H a = some (.dK kvs)) (k : Str) : DGet H a (.str k) (valV kvs (.inr k)) := .inl ⟨kvs, .inr k, .inl (cut_some.mp h).2, rfl, rfl⟩
theorem we_dget (h : WE B td Γ fun d => ∃ l, d = .dic l ∧ WE B ty Γ fun e => ∃ k x, e = .str k ∧ l.lookup k = some x ∧ R x) : WE B (tDGet td ty) Γ R := fun M σ H S Q q => h M σ H S _ fun v H1 d S1 x r1 ⟨l, hd, h2⟩ => by
  subst hd
  refine h2 M σ H1 S1 _ fun u H2 e S2 x2 r2 ⟨k, y, he, hl, hr⟩ => ?_
  subst he
  cases r1.mono x2.cut with
  | dic ha rk =>
    rcases rk.val k with ⟨_, z⟩ | ⟨w, d, e1, e2, e3⟩
    · rw [hl] at z; cases z
    · rw [hl] at e2; cases e2
      refine ⟨_, w, rfl, ?_, q w H2 y S2 (x.trans x2) e3 hr⟩
      rw [r2.str_inv, ← e1]
      exact dget_at (l := l) ha k
theorem we_din (h : WE B ty Γ fun e => ∃ k, e = .str k ∧ WE B td Γ fun d => ∃ l, d = .dic l ∧ R (.bl (l.lookup k).isSome)) : WE B (tDIn ty td) Γ R := fun M σ H S Q q => h M σ H S _ fun u H1 e S1 x r2 ⟨k, he, h2⟩ => by
  subst he
  refine h2 M σ H1 S1 _ fun v H2 d S2 x2 r1 ⟨l, hd, hr⟩ => ?_
  subst hd
  cases r1 with
  | dic ha rk =>
    rename_i a kvs
    refine ⟨_, _, rfl, by rw [r2.str_inv]; exact dget_at (l := l) ha k, ?_⟩
    have e : (valV kvs (.inr k)).isSome = (l.lookup k).isSome := by
      rcases rk.val k with ⟨z1, z2⟩ | ⟨w, d, e1, e2, e3⟩
      · rw [z1, z2]; rfl
      · rw [e1, e2]; rfl
    rw [e]
    exact q _ H2 _ S2 (x.trans x2) (.bl _) hr
theorem we_dget2 (h : WE B td Γ fun d => ∃ l, d = .dic l ∧ WE B ty Γ fun e => ∃ k, e = .str k ∧ WE B tx Γ fun z => R ((l.lookup k).getD z)) : WE B (tDGet2 td ty tx) Γ R := fun M σ H S Q q => h M σ H S _ fun v H1 d S1 x r1 ⟨l, hd, h2⟩ => by
  subst hd
  cases r1 with
  | dic ha rk =>
    refine ⟨_, rfl, .inl ⟨_, .inl (cut_some.mp ha).2⟩, h2 M σ H1 S1 _ fun u H2 e S2 x2 r2 ⟨k, he, h3⟩ => ?_⟩
    subst he
    refine h3 M σ H2 S2 _ fun w H3 z S3 x3 r3 hr => ?_
    have x5 := x2.trans x3
    have ha3 := x5.cut _ _ ha
    refine ⟨_, by rw [r2.str_inv]; exact dget_at (l := l) ha3 k, ?_⟩
    rcases (rk.mono x5.cut).val k with ⟨z1, z2⟩ | ⟨y, d, e1, e2, e3⟩
    · rw [z1]
      rw [z2] at hr
      exact q w H3 z S3 (x.trans x5) r3 hr
    · rw [e1]
      rw [e2] at hr
      exact q y H3 d S3 (x.trans x5) e3 hr
end
end K11

/-! K11N: the operators of the class Net: in, len, ==, !=, methods, isinstance. -/
namespace K11
open PySem PySem.Spec PyProof.Rows L2

/-- a method's promise, by its name -/
structure Mt (P : Program) (w : World) (K : PySem.W.Frag) (mg : Str → Option Value) (base : Heap) (C : Addr) (k : Nat) (m : Str) (ps : List Str) (sp : Sp) : Prop where
  ex : ∃ (f : Addr) (fd : FuncData), FnOk P w K mg base CX0 k f fd ps sp ∧ Meth K C m f ∧ Binds K fd ps []
section
variable {X : Cx} {pins : List (Addr × Obj)} {σ : L2.St} {H : Hp} {s : Shared}
theorem pmt {C : Addr} {k : Nat} {m : Str} {ps : List Str} {sp : Sp} {apos pos : Pos} {o e : Expr} {es : List Expr} {ta : TE} {t : TA} {pl : Sem Bool} (c : Mt X.prog X.w X.K X.mg X.base C k m ps sp) (cl : Cls X.K C) (hr : Room k X.A) (he : PE X o ta) (ha : PA X (e :: es) t)
    (hst : starEach (e :: es) X.env = (false, eval e X.env) :: starEach es X.env := by rfl) (hpl : (backTo pos (starEach es X.env)).any (·.1) = false := by rfl)
    (ht : eval (.Call (.Attribute o m apos) (e :: es) [] pos) X.env = (do
      let ov ← eval o X.env
      standAt apos.atName
      let r ← holding [ov] (getMethod ov m pl)
      callWith pos r.1 r.2 (backTo pos (starEach (e :: es) X.env)) (backToKw pos (keywordEach [] X.env))) := by rfl) :
    PE X (.Call (.Attribute o m apos) (e :: es) [] pos) (tMeth C m sp [] E0 ta t) := by
  obtain ⟨f, fd, h1, h2, h3⟩ := c.ex
  exact pe_meth he cl h2 h1 hr h3 .nil pass0 ha hst hpl ht
theorem pmt0 {C : Addr} {k : Nat} {m : Str} {ps : List Str} {sp : Sp} {apos pos : Pos} {o : Expr} {ta : TE} {pl : Sem Bool} (c : Mt X.prog X.w X.K X.mg X.base C k m ps sp) (cl : Cls X.K C) (hr : Room k X.A) (he : PE X o ta)
    (ht : eval (.Call (.Attribute o m apos) [] [] pos) X.env = (do
      let ov ← eval o X.env
      standAt apos.atName
      let r ← holding [ov] (getMethod ov m pl)
      callWith pos r.1 r.2 (backTo pos (starEach [] X.env)) (backToKw pos (keywordEach [] X.env))) := by rfl) :
    PE X (.Call (.Attribute o m apos) [] [] pos) (tMeth C m sp [] E0 ta tNil) := by
  obtain ⟨f, fd, h1, h2, h3⟩ := c.ex
  exact pe_meth0 he cl h2 h1 hr h3 .nil pass0 ht

/-- a def runs from within a built-in or an operator -/
theorem run_own {A : Around} {k : Nat} {f : Addr} {fd : FuncData} {ps : List Str} {sp : Sp} {us : List Value} {vs : List V} {Q : VK} {E : Value → Shared → Prop} (F : FnOk X.prog X.w X.K X.mg X.base CX0 k f fd ps sp) (hr : Room k A) (hf : A.frames = X.A.frames) (hb : Binds X.K fd ps [])
    (I : Inv X pins σ H s) (r : Vals vs us) (h : sp vs H Q E0) : wpAny (model X.prog X.w) A (call (.ref f) us) (EP X pins σ Q) E s := by
  have hl : (us ++ []).length = ps.length := by rw [List.append_nil, ← r.length]; exact F.len _ _ _ _ h
  have e0 : Env0 X.prog X.w X.K X.mg X.base A X.stack s H := by
    have e := I.env0
    exact ⟨hf.trans e.frames, e.mod, e.bs, e.bsz, e.funs, e.frf, e.hok, e.bare⟩
  have b := hb s us I.kIn hl
  rw [List.append_nil] at b
  refine wpAny_call (codeAny_mono (F.run A X.stack s H ⟨us, []⟩ us vs Q E0 hr e0 b r h) fun r s' hq => ?_)
  cases r with
  | error e => exact False.elim hq
  | ok fl =>
    cases fl with
    | ret u => exact I.after hq
    | next => exact False.elim hq
    | brk => exact False.elim hq
    | cont => exact False.elim hq
end

/-! ## in, len -/
def rInN (C : Addr) (sp : Sp) (neg : Bool) : R2 := fun x y H Q => ∃ a dx fs, y = .ref a ∧ H a = some (.ins C dx fs) ∧ sp [y, x] H (fun v H' => ∃ b, v = .bl b ∧ Q (.bl (if neg then !b else b)) H') E0
def rLenN (C : Addr) (sp : Sp) : List V → Hp → VK → Prop := fun xs H Q => ∃ a dx fs, xs = [.ref a] ∧ H a = some (.ins C dx fs) ∧ sp xs H (fun v H' => ∃ n : Int, v = .int n ∧ 0 ≤ n ∧ n < 2 ^ 63 ∧ Q (.int n) H') E0
section
variable {X : Cx} {C : Addr} {k : Nat} {ps : List Str} {sp : Sp}
theorem op_inN (c : Mt X.prog X.w X.K X.mg X.base C k "__contains__" ps sp) (hr : Room k X.A) : OpR X (compareOp .In) (rInN C sp false) := by
  obtain ⟨f, fd, F, hm, hb⟩ := c.ex
  intro pins s σ H x y v u Q I rx ry h
  obtain ⟨a, dx, fs, rfl, ha, hs⟩ := h
  cases ry
  obtain ⟨mA, J, _⟩ := ins_get I.hok ha
  obtain ⟨od, J, _⟩ := J.look
  obtain ⟨m, hF⟩ := I.fr
  refine PySem.W.in_K hF I.ok.mod.kin J hm.at_ hm.fn (thn (run_own F hr rfl hb I (.cons (show RelV (.ref a) (.ref a) from rfl) (.cons rx .nil)) hs) fun r s' ⟨w, H', I', rw', b, ew, q⟩ => ?_)
  subst ew
  cases rw'
  exact wpAny_truthy_bool ⟨.bl b, H', I', rfl, q⟩
theorem op_notInN (c : Mt X.prog X.w X.K X.mg X.base C k "__contains__" ps sp) (hr : Room k X.A) : OpR X (compareOp .NotIn) (rInN C sp true) := by
  obtain ⟨f, fd, F, hm, hb⟩ := c.ex
  intro pins s σ H x y v u Q I rx ry h
  obtain ⟨a, dx, fs, rfl, ha, hs⟩ := h
  cases ry
  obtain ⟨mA, J, _⟩ := ins_get I.hok ha
  obtain ⟨od, J, _⟩ := J.look
  obtain ⟨m, hF⟩ := I.fr
  refine PySem.W.notIn_K hF I.ok.mod.kin J hm.at_ hm.fn (thn (run_own F hr rfl hb I (.cons (show RelV (.ref a) (.ref a) from rfl) (.cons rx .nil)) hs) fun r s' ⟨w, H', I', rw', b, ew, q⟩ => ?_)
  subst ew
  cases rw'
  exact wpAny_truthy_bool ⟨.bl (!b), H', I', rfl, q⟩
theorem call_lenN (c : Mt X.prog X.w X.K X.mg X.base C k "__len__" ps sp) (hr : Room (k + 1) X.A) : CallR X (.builtin "len") (rLenN C sp) := by
  obtain ⟨f, fd, F, hm, hb⟩ := c.ex
  intro pins s σ H xs us Q I r h
  obtain ⟨a, dx, fs, rfl, ha, hs⟩ := h
  obtain ⟨u, rfl, ru⟩ := vals1 r
  cases ru
  obtain ⟨mA, J, _⟩ := ins_get I.hok ha
  obtain ⟨od, J, _⟩ := J.look
  obtain ⟨m, hF⟩ := I.fr
  refine PySem.W.len_K hF I.ok.mod.kin J hm.at_ hm.fn (thn (run_own F hr.in1 rfl hb I (.cons (show RelV (.ref a) (.ref a) from rfl) .nil) hs) fun r s' ⟨w, H', I', rw', n, ew, h0, h1, q⟩ => ?_)
  subst ew
  obtain ⟨t, rfl⟩ := rw'
  exact ⟨⟨h0, h1⟩, .int n, H', I'.tok _, ⟨_, rfl⟩, q⟩

/-! ## ==, != -/
def rEqN (K : PySem.W.Frag) (C : Addr) (sp : Sp) (neg : Bool) : R2 := fun x y H Q => ∃ a dx fs t, x = .ref a ∧ H a = some (.ins C dx fs) ∧ TyX K H y t ∧ PySem.W.notFirst K C t = true ∧ sp [x, y] H (fun v H' => ∃ b, v = .bl b ∧ Q (.bl (if neg then !b else b)) H') E0
theorem looks_ty {pins : List (Addr × Obj)} {σ : L2.St} {H : Hp} {s : Shared} {y : V} {u t : Value} (I : Inv X pins σ H s) (r : RelV y u) (ty : TyX X.K H y t) : PySem.W.Looks (model X.prog X.w) s.heap (typeOf u) t := by
  have at_ : ∀ {a : Addr} {o : Obj} {c : Value}, s.heap.get? a = some o → o.cls = c → PySem.W.Looks (model X.prog X.w) s.heap (typeOf (.ref a)) c := fun {a o c} h1 h2 => by
    subst h2
    intro A Q E s' hk hq
    exact wpAny_typeOf_ref (hk a o h1) hq
  cases ty with
  | base h =>
    cases h with
    | non => cases r; exact PySem.W.Looks.of_pure (by kernel_rfl)
    | bl x => cases r; exact PySem.W.Looks.of_pure rfl
    | int i => obtain ⟨t, rfl⟩ := r; exact PySem.W.Looks.of_pure rfl
    | str x => obtain ⟨t, rfl⟩ := r; exact PySem.W.Looks.of_pure rfl
    | flt x => obtain ⟨t, rfl⟩ := r; exact PySem.W.Looks.of_pure rfl
    | lst e =>
      cases r
      obtain ⟨_, its, n, _, e1⟩ := I.hok _ _ e
      exact at_ e1 rfl
    | frz e =>
      cases r
      obtain ⟨_, _, its, n, _, e1⟩ := I.hok _ _ e
      exact at_ e1 rfl
    | tup e =>
      cases r
      obtain ⟨_, its, _, o, e1, e2, _⟩ := I.hok _ _ e
      exact at_ e1 e2
    | dK e =>
      cases r
      obtain ⟨_, _, vs, _, o, es, ep, e1, e2, _⟩ := I.hok _ _ e
      exact at_ e1 e2.1
    | dT e =>
      cases r
      obtain ⟨_, _, xs, _, o, es, ep, e1, e2, _⟩ := I.hok _ _ e
      exact at_ e1 e2.1
    | ins e _ _ _ _ _ =>
      cases r
      obtain ⟨_, _, _, e1, _⟩ := I.hok _ _ e
      exact at_ e1 rfl
  | byt b => obtain ⟨t, rfl⟩ := r; exact PySem.W.Looks.of_pure rfl
  | set e =>
    cases r
    obtain ⟨o, es, ep, t, e1, e2, _⟩ := I.hok _ _ e
    exact at_ e1 e2.1
  | kList e c => cases r; exact at_ (I.kIn _ _ e) c
  | kTuple e c => cases r; exact at_ (I.kIn _ _ e) c
  | kDict e c => cases r; exact at_ (I.kIn _ _ e) c
  | fTuple e =>
    cases r
    obtain ⟨_, _, its, _, o, e1, e2, _⟩ := I.hok _ _ e
    exact at_ e1 e2
  | fDict e =>
    cases r
    obtain ⟨_, _, _, vs, _, o, es, ep, e1, e2, _⟩ := I.hok _ _ e
    exact at_ e1 e2.1
theorem op_eqN (c : Mt X.prog X.w X.K X.mg X.base C k "__eq__" ps sp) (hr : Room k X.A) : OpR X (compareOp .Eq) (rEqN X.K C sp false) := by
  obtain ⟨f, fd, F, hm, hb⟩ := c.ex
  intro pins s σ H x y v u Q I rx ry h
  obtain ⟨a, dx, fs, t, rfl, ha, ty, nf, hs⟩ := h
  cases rx
  obtain ⟨mA, J, _⟩ := ins_get I.hok ha
  obtain ⟨od, J, _⟩ := J.look
  obtain ⟨m, hF⟩ := I.fr
  refine PySem.W.cmp_K (op := .Eq) (tb := t) hr.units0 hF I.ok.mod.kin J (looks_ty I ry ty) nf hm.at_ hm.fn (thn (run_own F hr rfl hb I (.cons (show RelV (.ref a) (.ref a) from rfl) (.cons ry .nil)) hs) fun r s' ⟨w, H', I', rw', b, ew, q⟩ => ?_)
  subst ew
  cases rw'
  exact ⟨.bl b, H', I', rfl, q⟩
end
section
variable {prog : Program} {w : World} {A : Around} {E : Value → Shared → Prop} {s : Shared} {K : PySem.W.Frag} {x C f : Addr} {ox : Obj} {od : Option Obj} {b : Value}
open PySem.W in
theorem check_ne {M : Model} {Q : Unit → Shared → Prop} (X : K.In s.heap) (I : InstAt s.heap x ox C od) (hm : mroIn K C (.type "object") = some true) (h : Q () s) : wpAny M A (checkBuiltinCall "object.__ne__" ⟨[.ref x, b], []⟩) Q E s := by
  have L0 := I.type (M := M)
  have L1 := looks_mroIn (M := M) X hm
  simp only [checkBuiltinCall, PySem.F.cmpKind_ne, PySem.F.cmpSplit_ne]
  unfold isInstance
  repeat lk
  exact h
open PySem.W in
theorem call_ne {Q : Value → Shared → Prop} (hu : A.in1.units < cLine) (X : K.In s.heap) (I : InstAt s.heap x ox C od) (hm : mroIn K C (.type "object") = some true) (hs : findIn K (.ref C) "__eq__" = some (some (.ref f))) (hf : isFn K (.ref f) = true)
    (h : wpAny (model prog w) A.in1 (call (.ref f) [.ref x, b]) (fun r s' => ∃ z, r = .bool z ∧ Q (.bool (!z)) s') E s) : wpAny (model prog w) A (call (.builtin "object.__ne__") [.ref x, b]) Q E s := by
  refine wpAny_call (codeAny_call_builtin PySem.F.cmp_object.ne.plain PySem.F.cmpEntry_ne (check_ne X I hm ?_))
  unfold Builtin.«object.__ne__»
  refine wpAny_bind (wpAny_pure ?_)
  refine wpAny_bind (wpAny_cRoomFor hu ?_)
  refine wpAny_bind (ifBound_K X I hs hf (wpAny_mono h (fun r s' ⟨z, e, q⟩ => ?_) fun _ _ e => e))
  subst e
  refine wpAny_bind (wpAny_truthy_bool ?_)
  exact wpAny_pure q
open PySem.W in
theorem ifBound_ne {M : Model} {args : List Value} {Q : Option Value → Shared → Prop} (X : K.In s.heap) (I : InstAt s.heap x ox C od) (hs : findIn K (.ref C) "__ne__" = some (some (.builtin "object.__ne__")))
    (h : wpAny M A (call (.builtin "object.__ne__") (.ref x :: args)) (fun v => Q (some v)) E s) : wpAny M A (callSpecialIfBound? (.ref x) "__ne__" args) Q E s := by
  simp only [callSpecialIfBound?, bindSpecialIfBound?]
  refine wpAny_holding (wpAny_bind (wpAny_bind (wpAny_bind (I.type.here ((looks_findIn X hs).here ?_)))))
  refine wpAny_bind (wpAny_askSetting (wpAny_ite ?_))
  have fin : wpAny M A (call (.builtin "object.__ne__") ([.ref x] ++ args) >>= fun v => pure (some v)) Q E s := wpAny_bind (wpAny_mono h (fun v s' h' => wpAny_pure h') fun _ _ h' => h')
  rw [PySem.F.cmp_object.ne.bind]
  split
  · exact wpAny_bind (wpAny_pure (wpAny_pure (by exact fin)))
  · exact wpAny_tryCatch (wpAny_bind (wpAny_pure (wpAny_pure (by exact fin))))
open PySem.W in
theorem cmp_ne {h₀ : Heap} {L : Addr} {m : Str → Option Value} {tb : Value} {Q : Value → Shared → Prop} (hu : A.units + 8 < cLine) (F : Fr h₀ L s.heap m) (X₀ : K.In h₀) (I : InstAt s.heap x ox C od) (hb : Looks (model prog w) s.heap (typeOf b) tb) (hn : notFirst K C tb = true)
    (hm : mroIn K C (.type "object") = some true) (h1 : findIn K (.ref C) "__ne__" = some (some (.builtin "object.__ne__"))) (hs : findIn K (.ref C) "__eq__" = some (some (.ref f))) (hf : isFn K (.ref f) = true)
    (h : wpAny (model prog w) A.in1 (call (.ref f) [.ref x, b]) (fun r s' => ∃ z, r = .bool z ∧ Q (.bool (!z)) s') E s) : wpAny (model prog w) A (compareOp .NotEq (.ref x) b) Q E s := by
  have X := X₀.keeps F.keep
  show wpAny (model prog w) A (richCompare .NotEq (.ref x) b) Q E s
  have one : wpAny (model prog w) A (tryCompare (.ref x) "__ne__" b) (fun r s' => ∃ v, r = some v ∧ Q v s') E s := by
    unfold tryCompare
    refine wpAny_bind (ifBound_ne X I h1 (call_ne (by show A.units + 1 < cLine; omega) X I hm hs hf (wpAny_mono h (fun r s' ⟨z, e, q⟩ => ⟨z, e, ?_⟩) fun _ _ e => e)))
    exact wpAny_pure ⟨_, rfl, q⟩
  unfold richCompare
  simp only [oneThing_ref]
  refine wpAny_holding (wpAny_bind (wpAny_cRoomFor (by omega) (wpAny_bind (I.type.here (wpAny_bind (hb.here ?_))))))
  split
  · rename_i q
    have e : subIn K tb (.ref C) = some false := by
      rcases Bool.or_eq_true_iff.mp hn with e | e
      · rw [beq_iff_eq.mp e] at q; simp at q
      · exact beq_iff_eq.mp e
    refine wpAny_bind ((looks_subIn X e).here ?_)
    simp only [Bool.false_eq_true, if_false]
    exact wpAny_bind (wpAny_mono one (fun r s' ⟨v, e, hq⟩ => by subst e; exact wpAny_pure hq) fun _ _ e => e)
  · refine wpAny_bind (wpAny_pure ?_)
    simp only [Bool.false_eq_true, if_false]
    exact wpAny_bind (wpAny_mono one (fun r s' ⟨v, e, hq⟩ => by subst e; exact wpAny_pure hq) fun _ _ e => e)
end
section
variable {X : Cx} {C : Addr} {k : Nat} {ps : List Str} {sp : Sp}
theorem op_neN (c : Mt X.prog X.w X.K X.mg X.base C k "__eq__" ps sp) (hr : Room (k + 1) X.A) (hm : PySem.W.mroIn X.K C (.type "object") = some true) (h1 : PySem.W.findIn X.K (.ref C) "__ne__" = some (some (.builtin "object.__ne__"))) : OpR X (compareOp .NotEq) (rEqN X.K C sp true) := by
  obtain ⟨f, fd, F, hme, hb⟩ := c.ex
  intro pins s σ H x y v u Q I rx ry h
  obtain ⟨a, dx, fs, t, rfl, ha, ty, nf, hs⟩ := h
  cases rx
  obtain ⟨mA, J, _⟩ := ins_get I.hok ha
  obtain ⟨od, J, _⟩ := J.look
  obtain ⟨m, hF⟩ := I.fr
  refine cmp_ne (tb := t) (by have := hr.units; omega) hF I.ok.mod.kin J (looks_ty I ry ty) nf hm h1 hme.at_ hme.fn (thn (run_own F hr.in1 rfl hb I (.cons (show RelV (.ref a) (.ref a) from rfl) (.cons ry .nil)) hs) fun r s' ⟨w, H', I', rw', b, ew, q⟩ => ?_)
  subst ew
  cases rw'
  exact ⟨b, rfl, .bl (!b), H', I', rfl, q⟩

/-! ## on data -/
end
/-- the class of a datum -/
def tyD (C : Addr) : D → Value
  | .non => .type "NoneType"
  | .bl _ => .type "bool"
  | .int _ => .type "int"
  | .str _ => .type "str"
  | .lst _ => .type "list"
  | .nl _ => .type "list"
  | .tup _ => .type "tuple"
  | .dic _ => .type "dict"
  | .net _ _ _ => .ref C
  | .pot => .type "list"
  | .ty _ => .type "type"
  | .cls => .type "type"
def D.inst : D → Bool
  | .ty _ => false
  | .cls => false
  | _ => true
def isStrD : D → Bool
  | .str _ => true
  | _ => false
def isTupD : D → Bool
  | .tup _ => true
  | _ => false
def isNetD : D → Bool
  | .net _ _ _ => true
  | _ => false
/-- what the class has, for isinstance and == -/
structure NetT (K : PySem.W.Frag) (C : Addr) : Prop extends NetC K C where
  ha : PySem.W.findIn K (.ref C) "__class__" = some (some (.builtin "object.__class__"))
  hn : PySem.W.specialIn K (.builtin "object.__class__") "__get__" = some (some (.builtin "getset_descriptor.__get__"))
  htk : PySem.W.takesIn K (.builtin "object.__class__") = some true
  hm : PySem.W.mroIn K C (.type "object") = some true
  hne : PySem.W.findIn K (.ref C) "__ne__" = some (some (.builtin "object.__ne__"))
  first : ∀ d : D, d.inst = true → PySem.W.notFirst K C (tyD C d) = true
  isN : ∀ d : D, d.inst = true → PySem.W.kitOne K (tyD C d) (.ref C) = some (isNetD d)
  isS : PySem.W.kitOne K (.ref C) (.type "str") = some false
  isT : PySem.W.kitOne K (.ref C) (.type "tuple") = some false
  isL : PySem.W.kitOne K (.ref C) (.type "list") = some false
section
variable {B : Bs} {Γ : Ctx} {R : D → Prop} {ta tb : TE} {Pre : List D → Prop} {Post : List D → D → Prop}
theorem rep_ty (T : NetT B.W.K B.W.C) {M : Addr → Prop} {H : Hp} {v : V} {d : D} (hp : PotAt H B.W.pot) (h : d.inst = true) (r : Rep B.W (cut M H) v d) : TyX B.W.K H v (tyD B.W.C d) := by
  cases r with
  | non => exact .base .non
  | bl b => exact .base (.bl b)
  | int i => exact .base (.int i)
  | str s => exact .base (.str s)
  | lst h1 _ => exact .base (.lst (cut_some.mp h1).2)
  | nl h1 _ _ => exact .base (.lst (cut_some.mp h1).2)
  | tup h1 _ =>
    rcases h1 with h1 | ⟨_, h1 | ⟨o, its, n, h1, h2, _⟩⟩
    · exact .base (.tup (cut_some.mp h1).2)
    · rcases h1 with h1 | ⟨_, h1⟩ <;> cases h1
    · exact .kTuple h1 h2
  | dic h1 _ => exact .base (.dK (cut_some.mp h1).2)
  | net h1 _ _ _ => exact .base (.ins (cut_some.mp h1).2 T.cl T.ha T.hn T.htk T.hm)
  | pot =>
    obtain ⟨a, b, e, _⟩ := hp
    exact .base (.lst e)
  | ty n => cases h
  | cls => cases h
theorem we_inN {neg : Bool} (h : WE B ta Γ fun x => WE B tb Γ fun y => ∃ ns ls nr, y = .net ns ls nr ∧ Pre [y, x] ∧ ∀ d, Post [y, x] d → ∃ b, d = .bl b ∧ R (.bl (if neg then !b else b))) :
    WE B (tOp (rInN B.W.C (SpD B.W.K B.W.C Pre Post) neg) ta tb) Γ R := fun M σ H S Q q => h M σ H S _ fun v H1 x S1 e1 r1 h1 => h1 M σ H1 S1 _ fun u H2 y S2 e2 r2 ⟨ns, ls, nr, ey, hp, k⟩ => by
  subst ey
  have r2' := r2
  cases r2 with
  | net g1 _ _ _ =>
    refine ⟨_, _, _, rfl, (cut_some.mp g1).2, B.W.pot, B.W.old, M, _, S2.fact, .cons r2' (.cons (r1.mono e2.cut) .nil), hp, fun v H3 d pt x3 rd hd => ?_⟩
    obtain ⟨b, eb, hr⟩ := k d hd
    subst eb
    exact ⟨b, rd.bl_inv, q _ H3 _ (S2.fx x3 pt) ((e1.trans e2).trans x3) (.bl _) hr⟩
theorem we_eqN {neg : Bool} (T : NetT B.W.K B.W.C) (h : WE B ta Γ fun x => WE B tb Γ fun y => (∃ ns ls nr, x = .net ns ls nr) ∧ y.inst = true ∧ Pre [x, y] ∧ ∀ d, Post [x, y] d → ∃ b, d = .bl b ∧ R (.bl (if neg then !b else b))) :
    WE B (tOp (rEqN B.W.K B.W.C (SpD B.W.K B.W.C Pre Post) neg) ta tb) Γ R := fun M σ H S Q q => h M σ H S _ fun v H1 x S1 e1 r1 h1 => h1 M σ H1 S1 _ fun u H2 y S2 e2 r2 ⟨⟨ns, ls, nr, ex⟩, hi, hp, k⟩ => by
  subst ex
  have r1' := r1.mono e2.cut
  have r1'' := r1'
  cases r1' with
  | net g1 _ _ _ =>
    refine ⟨_, _, _, tyD B.W.C y, rfl, (cut_some.mp g1).2, rep_ty T S2.pt hi r2, T.first y hi, B.W.pot, B.W.old, M, _, S2.fact, .cons r1'' (.cons r2 .nil), hp, fun v H3 d pt x3 rd hd => ?_⟩
    obtain ⟨b, eb, hr⟩ := k d hd
    subst eb
    exact ⟨b, rd.bl_inv, q _ H3 _ (S2.fx x3 pt) ((e1.trans e2).trans x3) (.bl _) hr⟩
theorem we_lenN (h : WE B ta Γ fun x => ∃ ns ls nr, x = .net ns ls nr ∧ Pre [x] ∧ ∀ d, Post [x] d → ∃ n : Int, d = .int n ∧ 0 ≤ n ∧ n < 2 ^ 63 ∧ R (.int n)) : WE B (tCB (rLenN B.W.C (SpD B.W.K B.W.C Pre Post)) (tCons ta tNil)) Γ R := fun M σ H S Q q =>
  h M σ H S _ fun v H1 x S1 e1 r1 ⟨ns, ls, nr, ex, hp, k⟩ => by
  subst ex
  have r1' := r1
  cases r1 with
  | net g1 _ _ _ =>
    refine ⟨_, _, _, rfl, (cut_some.mp g1).2, B.W.pot, B.W.old, M, _, S1.fact, .cons r1' .nil, hp, fun v H3 d pt x3 rd hd => ?_⟩
    obtain ⟨n, en, h0, h1, hr⟩ := k d hd
    subst en
    exact ⟨n, rd.int_inv, h0, h1, q _ H3 _ (S1.fx x3 pt) (e1.trans x3) (.int _) hr⟩
/-! isinstance -/
theorem vc_isiStr (T : NetT B.W.K B.W.C) {d : D} (hd : d.inst = true) (q : R (.bl (isStrD d))) : VC B (rIsi B.W.K) [d, .ty "str"] R := fun M H v r pt _ _ Q k => by
  cases r with
  | cons r1 r2 => cases r2 with
    | cons r2 r3 =>
      cases r3
      cases r2
      refine ⟨_, _, tyD B.W.C d, _, _, rfl, .ty "str", rep_ty T pt hd r1, ?_, k _ H _ (fun _ _ => rfl) (Same.refl H) (.bl _) q⟩
      cases d with
      | net _ _ _ => exact T.isS
      | ty _ => cases hd
      | cls => cases hd
      | _ => first | exact kit_ty (r := false) (by decide +kernel) | exact kit_ty (r := true) (by decide +kernel)
theorem vc_isiTup (T : NetT B.W.K B.W.C) {d : D} (hd : d.inst = true) (q : R (.bl (isTupD d))) : VC B (rIsi B.W.K) [d, .ty "tuple"] R := fun M H v r pt _ _ Q k => by
  cases r with
  | cons r1 r2 => cases r2 with
    | cons r2 r3 =>
      cases r3
      cases r2
      refine ⟨_, _, tyD B.W.C d, _, _, rfl, .ty "tuple", rep_ty T pt hd r1, ?_, k _ H _ (fun _ _ => rfl) (Same.refl H) (.bl _) q⟩
      cases d with
      | net _ _ _ => exact T.isT
      | ty _ => cases hd
      | cls => cases hd
      | _ => first | exact kit_ty (r := false) (by decide +kernel) | exact kit_ty (r := true) (by decide +kernel)
theorem vc_isiNet (T : NetT B.W.K B.W.C) {d : D} (hd : d.inst = true) (q : R (.bl (isNetD d))) : VC B (rIsi B.W.K) [d, .cls] R := fun M H v r pt _ _ Q k => by
  cases r with
  | cons r1 r2 => cases r2 with
    | cons r2 r3 =>
      cases r3
      cases r2
      exact ⟨_, _, tyD B.W.C d, _, _, rfl, .own B.W.C, rep_ty T pt hd r1, T.isN d hd, k _ H _ (fun _ _ => rfl) (Same.refl H) (.bl _) q⟩
theorem we_ty {n : String} (q : R (.ty n)) : WE B (tC (.ty n)) Γ R := fun M σ H S Q k => k _ H _ S Fx.refl (.ty n) q
theorem we_cls (q : R .cls) : WE B (tC (.ref B.W.C)) Γ R := fun M σ H S Q k => k _ H _ S Fx.refl .cls q
end
end K11

/-! K11P: looking at one's own objects; chains; for-else; dicts made and written. -/
namespace K11
open PySem PySem.Spec PyProof.Rows L2

/-! ## data that does not hang on lists -/
mutual
def D.flat : D → Bool
  | .non => true
  | .bl _ => true
  | .int _ => true
  | .str _ => true
  | .tup l => D.flatAll l
  | _ => false
def D.flatAll : List D → Bool
  | [] => true
  | d :: l => d.flat && D.flatAll l
end
mutual
theorem Rep.flat {W : Wd} {H H' : Hp} (e : ∀ b xs, H b = some (.tup xs) → H' b = some (.tup xs)) : ∀ {v : V} {d : D}, d.flat = true → Rep W H v d → Rep W H' v d
  | _, _, _, .non => .non
  | _, _, _, .bl b => .bl b
  | _, _, _, .int i => .int i
  | _, _, _, .str s => .str s
  | _, _, h, .lst _ _ => nomatch h
  | .ref _, .tup ds, h, .tup t r => Rep.tup (show TupH W.K H' _ _ from Or.imp (e _ _) id t) (Reps.flat e (show D.flatAll ds = true from h) r)
  | _, _, h, .dic _ _ => nomatch h
  | _, _, h, .net _ _ _ _ => nomatch h
  | _, _, h, .pot => nomatch h
  | _, _, h, .nl _ _ _ => nomatch h
  | .ty _, .ty _, h, _ => by cases h
  | .ref _, .cls, h, _ => by cases h
theorem Reps.flat {W : Wd} {H H' : Hp} (e : ∀ b xs, H b = some (.tup xs) → H' b = some (.tup xs)) : ∀ {v : List V} {d : List D}, D.flatAll d = true → Reps W H v d → Reps W H' v d
  | _, _, _, .nil => .nil
  | _, _, h, .cons r t => by
    rw [D.flatAll, Bool.and_eq_true] at h
    have h' := h
    exact .cons (Rep.flat e h'.1 r) (Reps.flat e h'.2 t)
end
theorem flat_sS : ∀ (l : List Str), D.flatAll (sS l) = true
  | [] => rfl
  | _ :: l => by
    show (true && D.flatAll (sS l)) = true
    rw [flat_sS l]; rfl
theorem flat_dPs : ∀ (l : List Lk), D.flatAll (dPs l) = true
  | [] => rfl
  | _ :: l => by
    show ((true && (true && true)) && D.flatAll (dPs l)) = true
    rw [flat_dPs l]; rfl
theorem flat_mem : ∀ {l : List D} {d : D}, D.flatAll l = true → d ∈ l → d.flat = true
  | e :: l, d, h, hd => by
    have h' : e.flat = true ∧ D.flatAll l = true := by simpa [D.flatAll] using h
    rcases List.mem_cons.mp hd with z | z
    · rw [z]; exact h'.1
    · exact flat_mem h'.2 z

section
variable {B : Bs} {Γ : Ctx} {R R' : D → Prop} {te ta tb tc td ty tv : TE} {tt tu : TT} {P : Po} {t u : TS}
/-- an object of one's own, looked at as data for a while -/
theorem Stt.rel {M : Addr → Prop} {H : Hp} {σ : L2.St} (S : Stt B M H σ Γ) {i : Nat} {e0 : Ent} {p : Addr} {d0 : D} (hi : Γ[i]? = some e0) (he0 : e0.own = true) (e1' : σ[i]? = some (some (.ref p))) (o : Own B M p)
    (hd : Rep B.W (cut (fun b => M b ∧ b ≠ p) H) (.ref p) d0) : Stt B (fun b => M b ∧ b ≠ p) H σ (Γ.set i (.da d0)) ∧ Same (cut M H) (cut (fun b => M b ∧ b ≠ p) H) := by
  have hil : i < Γ.length := (List.getElem?_eq_some_iff.mp hi).1
  have sm : Same (cut M H) (cut (fun b => M b ∧ b ≠ p) H) := cut_sub fun b z => z.1
  refine ⟨⟨S.pt, ⟨S.mp, o.np.symm⟩, S.kp, fun m h => ⟨S.sub m h, fun z => o.m0 (z ▸ h)⟩, fun m h => S.new m h.1, fun m h => S.dom m h.1, fun m xs h => S.tp m xs h.1, by rw [List.length_set, S.len], ?_, ?_⟩, sm⟩
  · intro j f h
    rcases getE_set h with ⟨z1, z2, z3⟩ | ⟨z1, z2⟩
    · subst z1 z2
      rw [e1']
      exact ⟨_, rfl, hd⟩
    · have q := S.ent j f z2
      have up : f.own = true → ∀ {a : Addr}, σ[j]?.join = some (.ref a) → Own B M a → Own B (fun b => M b ∧ b ≠ p) a := fun hf {a} ha o2 => ⟨⟨o2.m, fun z => by
        subst z
        exact z1 (S.inj i j _ f a hi z2 he0 hf e1' (join_some ha))⟩, o2.np, o2.h0, o2.m0⟩
      cases f with
      | no => exact trivial
      | da d => obtain ⟨v, e1, r⟩ := q; exact ⟨v, e1, r.mono sm⟩
      | ow l => obtain ⟨a, xs, e1, o1, h1, r⟩ := q; exact ⟨a, xs, e1, up rfl e1 o1, h1, r.mono sm⟩
      | owK l => obtain ⟨a, xs, e1, o1, h1, r⟩ := q; exact ⟨a, xs, e1, up rfl e1 o1, h1, r.mono sm⟩
      | owT l => obtain ⟨a, e1, o1, h1⟩ := q; exact ⟨a, e1, up rfl e1 o1, h1⟩
      | ins a0 fs => obtain ⟨a, dx, xs, e1, o1, h1, r⟩ := q; exact ⟨a, dx, xs, e1, up rfl e1 o1, h1, r.mono sm⟩
  · intro j k f g q h1 h2 h3 h4 h5 h6
    rcases getE_set h1 with ⟨a1, a2, a3⟩ | ⟨a1, a2⟩
    · subst a2; cases h3
    · rcases getE_set h2 with ⟨b1, b2, b3⟩ | ⟨b1, b2⟩
      · subst b2; cases h4
      · exact S.inj j k f g q a2 b2 h3 h4 h5 h6
/-- .. and back -/
theorem Fx.unrel {pot : Addr} {M : Addr → Prop} {H H' : Hp} {p : Addr} {o : HO} (hp : H p = some o) (x : Fx pot (fun b => M b ∧ b ≠ p) H H') : Fx pot M H H' :=
  ⟨fun b u n h => x.ext b u (fun z => n z.1) h, fun m hm n => by
    by_cases e : m = p
    · subst e
      rw [hp]
      exact x.ext m o (fun z => z.2 rfl) hp
    · exact x.own m ⟨hm, e⟩ n⟩
theorem cut_back {M : Addr → Prop} {H : Hp} {p : Addr} {o : HO} (hp : H p = some o) (nt : ∀ xs, o ≠ .tup xs) : ∀ b xs, cut (fun b => M b ∧ b ≠ p) H b = some (.tup xs) → cut M H b = some (.tup xs) := fun b xs h => by
  obtain ⟨h1, h2⟩ := cut_some.mp h
  refine cut_some.mpr ⟨fun z => h1 ⟨z, fun e => ?_⟩, h2⟩
  subst e
  rw [hp] at h2
  exact nt xs (Option.some.inj h2)
/-- what one's own object is as data -/
inductive Seen : Ent → D → Prop
  | ow (l : List D) : Seen (.ow l) (.lst l)
  | owK (l : List (Str × D)) : Seen (.owK l) (.dic l)
theorem Stt.see {M : Addr → Prop} {H : Hp} {σ : L2.St} (S : Stt B M H σ Γ) {i : Nat} {e : Ent} {d : D} (hi : Γ[i]? = some e) (s : Seen e d) :
    ∃ p o, Stt B (fun b => M b ∧ b ≠ p) H σ (Γ.set i (.da d)) ∧ Same (cut M H) (cut (fun b => M b ∧ b ≠ p) H) ∧ H p = some o ∧ (∀ xs, o ≠ .tup xs) ∧ Own B M p := by
  cases s with
  | ow l =>
    obtain ⟨p, xs, e1, o, h1, r⟩ := S.ent i _ hi
    obtain ⟨S', sm⟩ := S.rel (d0 := .lst l) hi rfl (join_some e1) o (.lst (cut_some.mpr ⟨fun z => z.2 rfl, h1⟩) (r.mono (cut_sub fun b z => z.1)))
    exact ⟨p, _, S', sm, h1, (fun _ z => by cases z), o⟩
  | owK l =>
    obtain ⟨p, xs, e1, o, h1, r⟩ := S.ent i _ hi
    obtain ⟨S', sm⟩ := S.rel (d0 := .dic l) hi rfl (join_some e1) o (.dic (cut_some.mpr ⟨fun z => z.2 rfl, h1⟩) (r.mono (cut_sub fun b z => z.1)))
    exact ⟨p, _, S', sm, h1, (fun _ z => by cases z), o⟩
theorem seeE {i : Nat} {e : Ent} {d : D} (hi : Γ[i]? = some e) (s : Seen e d) (k : WE B te (Γ.set i (.da d)) fun x => x.flat = true ∧ R x) : WE B te Γ R := fun M σ H S Q q => by
  obtain ⟨p, o, S', sm, hp, nt, _⟩ := S.see hi s
  refine k _ σ H S' Q fun v H' x S2 fx r ⟨hf, hr⟩ => ?_
  have hp' := fx.ext p o (fun z => z.2 rfl) hp
  have fy := Fx.unrel hp fx
  exact q v H' x (S.fx fy S2.pt) fy (Rep.flat (cut_back hp' nt) hf r) hr
theorem seeT {i : Nat} {e : Ent} {d : D} {R : Bool → Prop} (hi : Γ[i]? = some e) (s : Seen e d) (k : WT B tt (Γ.set i (.da d)) R) : WT B tt Γ R := fun M σ H S Q q => by
  obtain ⟨p, o, S', sm, hp, nt, _⟩ := S.see hi s
  refine k _ σ H S' Q fun b H' S2 fx hr => ?_
  have fy := Fx.unrel hp fx
  exact q b H' (S.fx fy S2.pt) fy hr
theorem seeA {i : Nat} {e : Ent} {d : D} {ta : TA} {R : List D → Prop} (hi : Γ[i]? = some e) (s : Seen e d) (k : WA B ta (Γ.set i (.da d)) fun x => D.flatAll x = true ∧ R x) : WA B ta Γ R := fun M σ H S Q q => by
  obtain ⟨p, o, S', sm, hp, nt, _⟩ := S.see hi s
  refine k _ σ H S' Q fun v H' x S2 fx r ⟨hf, hr⟩ => ?_
  have hp' := fx.ext p o (fun z => z.2 rfl) hp
  have fy := Fx.unrel hp fx
  exact q v H' x (S.fx fy S2.pt) fy (Reps.flat (cut_back hp' nt) hf r) hr
theorem seeO {i : Nat} {e : Ent} {d : D} {R : List D → Prop} (hi : Γ[i]? = some e) (s : Seen e d) (k : WO B te (Γ.set i (.da d)) fun x => D.flatAll x = true ∧ R x) : WO B te Γ R := fun M σ H S Q q => by
  obtain ⟨p, o, S', sm, hp, nt, _⟩ := S.see hi s
  refine k _ σ H S' Q fun a xs H' l S2 fx f hq r ⟨hf, hr⟩ => ?_
  have hp' := fx.ext p o (fun z => z.2 rfl) hp
  have fy := Fx.unrel hp fx
  refine q a xs H' l (S.fx fy S2.pt) fy f hq (Reps.flat (fun b ys h => ?_) hf r) hr
  obtain ⟨h1, h2⟩ := cut_some.mp h
  refine cut_some.mpr ⟨fun z => ?_, h2⟩
  rcases z with z | z
  · have := (cut_some.mp (cut_back hp' nt b ys (cut_some.mpr ⟨fun z => h1 (.inl z), h2⟩))).1
    exact this z
  · exact h1 (.inr z)

/-! ## chains -/
theorem we_chain {r r' : R2} (h : WE B ta Γ fun x => WE B tb Γ fun y => V2 B r x y fun z => ∃ k, z = .bl k ∧ (k = true → WE B tc Γ fun w => V2 B r' y w R) ∧ (k = false → R (.bl false))) : WE B (tChain r r' ta tb tc) Γ R := fun M σ H S Q q =>
  h M σ H S _ fun v H1 x S1 e1 r1 h1 => h1 M σ H1 S1 _ fun u H2 y S2 e2 r2 h2 => h2 M H2 v u (r1.mono e2.cut) r2 S2.pt S2.dom S2.mp _ fun w H3 d k e3 r3 ⟨b, eb, k1, k2⟩ => by
    subst eb
    have S3 := S2.same k e3
    have f3 := (e1.trans e2).trans (Fx.of (pot := B.W.pot) k e3)
    refine ⟨b, r3.bl_inv, ?_⟩
    cases b with
    | true =>
      rw [if_pos rfl]
      refine k1 rfl M σ H3 S3 _ fun w4 H4 z S4 e4 r4 h4 => ?_
      exact h4 M H4 u w4 ((r2.mono (Fx.of (pot := B.W.pot) k e3).cut).mono e4.cut) r4 S4.pt S4.dom S4.mp Q fun w5 H5 d5 k5 e5 r5 hr => q w5 H5 d5 (S4.same k5 e5) ((f3.trans e4).trans (Fx.of k5 e5)) r5 hr
    | false =>
      rw [if_neg Bool.false_ne_true]
      exact q _ H3 _ S3 f3 (.bl false) (k2 rfl)

/-! ## for .. else -/
theorem ws_forE {wi : TI} {g : TG} {tb : TS} (h : WI B wi Γ fun ds => ∃ I : Nat → Ctx → Prop, I 0 Γ ∧
    (∀ i d Γ1, ds[i]? = some d → I i Γ1 → WG B g d Γ1 fun Γ2 => WS B tb Γ2 { P with nx := I (i + 1), ct := I (i + 1), bk := P.nx }) ∧ ∀ Γ1, I ds.length Γ1 → WS B u Γ1 P) : WS B (tForE wi g tb u) Γ P := by
  intro M σ H S E e
  refine h M σ H S _ fun J H1 ds G Y S1 x ⟨I, i0, step, done⟩ sr => ?_
  obtain ⟨hgo, hstop, hyld⟩ := sr.walk
  refine ⟨fun i m σ' H' => m = ds.length - i ∧ i ≤ ds.length ∧ ∃ M' Γ', Stt B M' H' σ' Γ' ∧ Same (cut M H1) (cut M' H') ∧ I i Γ', ⟨ds.length, by simp, Nat.zero_le _, M, Γ, S1, Same.refl _, i0⟩, ?_⟩
  rintro i m σ' H' ⟨rfl, hi, M', Γ', S', s, hI⟩
  have hG := sr.stays M' H' s
  by_cases hlt : i < ds.length
  · refine .inr ⟨hgo i H' hlt hG, fun σ3 H3 => i + 1 ≤ ds.length ∧ ∃ M3 Γ3, Stt B M3 H3 σ3 Γ3 ∧ Same (cut M H1) (cut M3 H3) ∧ I (i + 1) Γ3, fun σ3 H3 ⟨hl, z⟩ => ⟨ds.length - (i + 1), by omega, rfl, hl, z⟩, fun v H2 y => ?_⟩
    have y' := hyld i H' v H2 hlt hG y
    obtain ⟨hH, d, hd, rd⟩ := sr.gives i M' H' v H2 hlt s S'.dom y'
    have S2 : Stt B M' H2 σ' Γ' ∧ Same (cut M' H') (cut M' H2) := by
      rcases hH with rfl | ⟨T, o, hT, rfl⟩
      · exact ⟨S', Same.refl _⟩
      · exact ⟨S'.alloc hT, cut_alloc' hT⟩
    refine step i d Γ' hd hI M' σ' H2 v S2.1 rd _ fun σ3 Γ3 S3 w => ?_
    refine w M' σ3 H2 S3 _ ⟨fun M4 σ4 H4 Γ4 S4 s4 q => ⟨hlt, M4, Γ4, S4, (s.trans S2.2).trans s4, q⟩, e.rt, e.ro, fun M4 σ4 H4 Γ4 S4 s4 q => e.nx M4 σ4 H4 Γ4 S4 (x.cut.trans ((s.trans S2.2).trans s4)) q, fun M4 σ4 H4 Γ4 S4 s4 q => ⟨hlt, M4, Γ4, S4, (s.trans S2.2).trans s4, q⟩⟩
  · have ei : i = ds.length := by omega
    subst ei
    exact .inl ⟨hstop H' hG, done Γ' hI M' σ' H' S' E (e.later (x.cut.trans s))⟩

/-! ## dicts with text keys -/
def putS (l : List (Str × D)) (k : Str) (d : D) : List (Str × D) := if (l.any fun p => decide (p.1 = k)) = true then l.map (fun p => if p.1 = k then (p.1, d) else p) else l ++ [(k, d)]
def mergeS (l : List (Str × D)) (more : List (Str × D)) : List (Str × D) := more.foldl (fun acc p => putS acc p.1 p.2) l
theorem RepK.any {W : Wd} {H : Hp} : ∀ {xs : List (Key × V)} {l : List (Str × D)}, RepK W H xs l → ∀ k : Str, (xs.any fun kv => decide (kv.1 = (.inr k : Key))) = (l.any fun p => decide (p.1 = k))
  | _, _, .nil, _ => rfl
  | _, _, .cons (k := j) r t, k => by
    rw [List.any_cons, List.any_cons, RepK.any t k]
    congr 1
    by_cases e : j = k
    · subst e; simp
    · have e' : ¬ (Sum.inr j : Key) = Sum.inr k := fun q => e (Sum.inr.inj q)
      simp [e, e']
theorem RepK.map {W : Wd} {H : Hp} {v : V} {d : D} (rv : Rep W H v d) (k : Str) : ∀ {xs : List (Key × V)} {l : List (Str × D)}, RepK W H xs l →
    RepK W H (xs.map fun kv => if kv.1 = (.inr k : Key) then (kv.1, v) else kv) (l.map fun p => if p.1 = k then (p.1, d) else p)
  | _, _, .nil => .nil
  | _, _, .cons (k := j) r t => by
    rw [List.map_cons, List.map_cons]
    by_cases e : j = k
    · subst e
      simp only [if_true]
      exact .cons rv (RepK.map rv j t)
    · have e' : ¬ (Sum.inr j : Key) = Sum.inr k := fun q => e (Sum.inr.inj q)
      simp only [if_neg e, if_neg e']
      exact .cons r (RepK.map rv k t)
theorem RepK.app {W : Wd} {H : Hp} : ∀ {xs ys : List (Key × V)} {l m : List (Str × D)}, RepK W H xs l → RepK W H ys m → RepK W H (xs ++ ys) (l ++ m)
  | _, _, _, _, .nil, s => s
  | _, _, _, _, .cons r t, s => .cons r (RepK.app t s)
theorem RepK.put {W : Wd} {H : Hp} {v : V} {d : D} (rv : Rep W H v d) (k : Str) {xs : List (Key × V)} {l : List (Str × D)} (r : RepK W H xs l) : RepK W H (putK xs (.inr k) v) (putS l k d) := by
  unfold putK putS
  rw [r.any k]
  by_cases e : (l.any fun p => decide (p.1 = k)) = true
  · rw [if_pos e, if_pos e]
    exact r.map rv k
  · rw [if_neg e, if_neg e]
    exact r.app (.cons rv .nil)
theorem RepK.merge {W : Wd} {H : Hp} : ∀ {more : List (Key × V)} {m : List (Str × D)}, RepK W H more m → ∀ {xs : List (Key × V)} {l : List (Str × D)}, RepK W H xs l → RepK W H (mergeK xs more) (mergeS l m)
  | _, _, .nil, _, _, r => r
  | _, _, .cons rv t, _, _, r => RepK.merge t (r.put rv _)
theorem putS_new {l : List (Str × D)} {k : Str} {d : D} (h : k ∉ l.map (·.1)) : putS l k d = l ++ [(k, d)] := by
  unfold putS
  rw [if_neg]
  intro z
  rw [List.any_eq_true] at z
  obtain ⟨p, hp, e⟩ := z
  exact h (List.mem_map.mpr ⟨p, hp, of_decide_eq_true e⟩)
theorem putS_len (l : List (Str × D)) (k : Str) (d : D) : (putS l k d).length ≤ l.length + 1 := by
  unfold putS
  split
  · simp
  · simp
/-- d[k] = v, d of one's own -/
theorem ws_dputK {i : Nat} {l : List (Str × D)} (h : Γ[i]? = some (.owK l)) (k : WE B tv Γ fun x => WE B ty Γ fun e => ∃ k, e = .str k ∧ l.length ≤ 5000 ∧ P.nx (Γ.set i (.owK (putS l k x)))) : WS B (sDPut (tVar i) ty tv) Γ P := fun M σ H S E e => by
  refine k M σ H S _ fun v H1 x S1 x1 r1 k2 => ?_
  obtain ⟨p, xs, e1, o, h1, r⟩ := S1.ent i _ h
  refine ⟨_, join_some e1, k2 M σ H1 S1 _ fun w H2 y S2 x2 r2 ⟨k, ey, hl, q⟩ => ?_⟩
  subst ey
  have h2 := (x2.own p o.m o.np).trans h1
  obtain ⟨S3, s3⟩ := S2.mut (o := .dK (putK xs (.inr k) v)) (e' := .owK (putS l k x)) h rfl (join_some e1) o ⟨p, _, rfl, o, upd_same, ((r.mono x2.cut).put (r1.mono x2.cut) k).mono (cut_upd o.m)⟩
  refine ⟨p, _, rfl, ?_, e.nx M σ _ _ S3 ((x1.cut.trans x2.cut).trans s3) q⟩
  rw [r2.str_inv]
  exact DPut.k (k := .inr k) h2 (by rw [r.length]; exact Nat.lt_of_le_of_lt hl (by decide))
/-! ## dicts with pairs of texts as keys -/
theorem linkK_kV (p : Lk) : (linkK p).map kV = [.str p.1, .str p.2] := rfl
theorem linkK_inj {p q : Lk} (h : linkK p = linkK q) : p = q := by
  obtain ⟨a, b⟩ := p
  obtain ⟨c, d⟩ := q
  injection h with h1 h2
  injection h2 with h2 _
  exact Prod.ext (Sum.inr.inj h1) (Sum.inr.inj h2)
theorem valT_is (l : List Lk) (p : Lk) : (valV (l.map fun q => (linkK q, V.bl true)) (linkK p)).isSome = decide (p ∈ l) := by
  induction l with
  | nil => rfl
  | cons a l ih =>
    rw [List.map_cons]
    by_cases e : a = p
    · subst e
      rw [valV_pos rfl]
      simp
    · rw [valV_neg (fun z => e (linkK_inj z)), ih]
      have e' : ¬ p = a := fun z => e z.symm
      simp [e']
theorem we_dinT {i : Nat} {l : List Lk} (h : Γ[i]? = some (.owT l)) (k : WE B ty Γ fun e => ∃ p, e = dP p ∧ R (.bl (decide (p ∈ l)))) : WE B (tDIn ty (tVar i)) Γ R := fun M σ H S Q q => by
  refine k M σ H S _ fun v H1 x S1 x1 r1 ⟨p, ex, hr⟩ => ?_
  subst ex
  obtain ⟨a, e1, o, h1⟩ := S1.ent i _ h
  obtain ⟨t, ev, ht⟩ := dP_inv r1
  subst ev
  refine ⟨_, join_some e1, a, valV (l.map fun q => (linkK q, V.bl true)) (linkK p), rfl, DGet.t h1 (cut_some.mp ht).2, ?_⟩
  rw [valT_is]
  exact q _ H1 _ S1 x1 (.bl _) hr
theorem ws_dputT {i : Nat} {l : List Lk} (h : Γ[i]? = some (.owT l)) (k : WE B tv Γ fun x => x = .bl true ∧ WE B ty Γ fun e => ∃ p, e = dP p ∧ p ∉ l ∧ l.length ≤ 5000 ∧ P.nx (Γ.set i (.owT (l ++ [p])))) : WS B (sDPut (tVar i) ty tv) Γ P := fun M σ H S E e => by
  refine k M σ H S _ fun v H1 x S1 x1 r1 ⟨ex, k2⟩ => ?_
  subst ex
  obtain ⟨a, e1, o, h1⟩ := S1.ent i _ h
  refine ⟨_, join_some e1, k2 M σ H1 S1 _ fun w H2 y S2 x2 r2 ⟨p, ey, nl, hl, q⟩ => ?_⟩
  subst ey
  obtain ⟨t, ev, ht⟩ := dP_inv r2
  subst ev
  have h2 := (x2.own a o.m o.np).trans h1
  have ep : putK (l.map fun q => (linkK q, V.bl true)) (linkK p) (.bl true) = (l ++ [p]).map fun q => (linkK q, V.bl true) := by
    unfold putK
    rw [if_neg, List.map_append]
    · rfl
    · intro z
      rw [List.any_map, List.any_eq_true] at z
      obtain ⟨q, hq, e⟩ := z
      exact nl (linkK_inj (of_decide_eq_true e) ▸ hq)
  obtain ⟨S3, s3⟩ := S2.mut (o := .dT ((l ++ [p]).map fun q => (linkK q, V.bl true))) (e' := .owT (l ++ [p])) h rfl (join_some e1) o ⟨a, rfl, o, upd_same⟩
  refine ⟨a, _, rfl, ?_, e.nx M σ _ _ S3 ((x1.cut.trans x2.cut).trans s3) q⟩
  rw [← ep, r1.bl_inv]
  exact DPut.t h2 (cut_some.mp ht).2 (by rw [List.length_map]; exact Nat.lt_of_le_of_lt hl (by decide))
/-! ## new dicts -/
def WK (B : Bs) (te : TE) (Γ : Ctx) (R : List (Str × D) → Prop) : Prop :=
  ∀ M σ H, Stt B M H σ Γ → ∀ Q : VK, (∀ p xs H' l, Stt B M H' σ Γ → Fx B.W.pot M H H' → H p = none → H' p = some (.dK xs) → RepK B.W (cut (addM M p) H') xs l → R l → Q (.ref p) H') → te σ H Q
theorem WK.we {R : D → Prop} (h : WK B te Γ fun l => R (.dic l)) : WE B te Γ R := fun M σ H S Q q => h M σ H S _ fun p xs H' l S' x f hp r hr =>
  q _ H' _ S' x (.dic (cut_some.mpr ⟨S.notM f, hp⟩) (r.mono cut_add)) hr
theorem ws_ownK {i : Nat} (h : WK B te Γ fun l => P.nx (Γ.set i (.owK l))) : WS B (tAsg te (gName i)) Γ P := fun M σ H S E e => h M σ H S _ fun p xs H1 l S1 x hp hq r q => by
  obtain ⟨S2, o⟩ := S.own S1 x hp hq
  exact e.nx _ _ H1 _ (S2.putO (e := .owK l) ⟨p, xs, rfl, o, hq, r⟩ fun j f h1 h2 h3 => S.apart (S.notM hp) j f h1 h2 h3) (cut_gain hp x.ext) q
theorem ws_ownT {i : Nat} (q : P.nx (Γ.set i (.owT []))) : WS B (tAsg tDNewT (gName i)) Γ P := fun M σ H S E e => fun p hp => by
  obtain ⟨S2, o⟩ := S.own (o := .dT []) (S.alloc hp) (S.new_ hp) hp upd_same
  exact e.nx _ _ _ _ (S2.putO (e := .owT []) ⟨p, rfl, o, upd_same⟩ fun j f h1 h2 h3 => S.apart (S.notM hp) j f h1 h2 h3) (cut_gain hp (S.new_ (o := .dT []) hp).ext) q
theorem wk_new {R : List (Str × D) → Prop} (q : R []) : WK B tDNewK Γ R := fun M σ H S Q k => fun p hp => k p [] _ [] (S.alloc hp) (S.new_ hp) hp upd_same .nil q
/-- the pairs of a display -/
def WP (B : Bs) (trs : List (TE × TE)) (Γ : Ctx) (R : List (Str × D) → Prop) : Prop :=
  ∀ M σ H, Stt B M H σ Γ → ∀ Q : List (V × V) → Hp → Prop, (∀ kvs l H', Stt B M H' σ Γ → Fx B.W.pot M H H' → RepK B.W (cut M H') kvs l → R l → Q (kvs.map fun kv => (kV kv.1, kv.2)) H') → tPairs trs σ H Q
theorem wp_nil {R : List (Str × D) → Prop} (q : R []) : WP B [] Γ R := fun M σ H S Q k => k [] [] H S Fx.refl .nil q
theorem wp_cons {tk tv : TE} {r : List (TE × TE)} {R : List (Str × D) → Prop} (h : WE B tk Γ fun x => ∃ k, x = .str k ∧ WE B tv Γ fun y => WP B r Γ fun l => R ((k, y) :: l)) : WP B ((tk, tv) :: r) Γ R := fun M σ H S Q q =>
  h M σ H S _ fun v H1 x S1 x1 r1 ⟨k, ex, h2⟩ => h2 M σ H1 S1 _ fun u H2 y S2 x2 r2 h3 => h3 M σ H2 S2 _ fun kvs l H3 S3 x3 r3 hr => by
    subst ex
    have := q ((.inr k, u) :: kvs) ((k, y) :: l) H3 S3 ((x1.trans x2).trans x3) (.cons (r2.mono x3.cut) r3) hr
    rw [r1.str_inv]
    exact this
theorem wk_disp {trs : List (TE × TE)} {R : List (Str × D) → Prop} (h : WP B trs Γ fun l => l.length ≤ 15 ∧ R (mergeS [] l)) : WK B (tDisp trs) Γ R := fun M σ H S Q q => fun p hp => by
  have S1 := S.alloc (o := .dK []) hp
  obtain ⟨S2, o⟩ := S.own S1 (S.new_ hp) hp upd_same
  refine h _ σ _ S2 _ fun kvs l H2 S3 x r ⟨hl, hr⟩ => ?_
  have hd : H2 p = some (.dK []) := (x.own p o.m o.np).trans upd_same
  have xx : Fx B.W.pot M H (upd H2 p (.dK (mergeK [] kvs))) := ⟨fun b u n z => by
      have nb : b ≠ p := ne_of_none z hp
      rw [upd_ne nb]
      exact x.ext b u (fun zz => zz.elim n nb) (by rw [upd_ne nb]; exact z), fun m hm n => by
      have nb : m ≠ p := fun z => S.notM hp (z ▸ hm)
      rw [upd_ne nb, x.own m (.inl hm) n, upd_ne nb]⟩
  have pt : PotAt (upd H2 p (.dK (mergeK [] kvs))) B.W.pot := potAt_same S3.pt (upd_ne o.np.symm)
  refine ⟨hd, kvs, rfl, by rw [r.length]; exact hl, q p _ _ (mergeS [] l) (S.fx xx pt) xx hp upd_same ((r.merge .nil).mono (cut_upd (.inr rfl))) hr⟩
end
end K11

/-! K11R: enumerate over lists and tuples; slices; starred items; isinstance of a tuple; dict(), dict comprehensions. -/
namespace PySem
set_option maxHeartbeats 4000000 in
theorem k11_enumerate_newB1 {v : Value} {o : Obj} {H : Heap → Prop} (B : Begins v o H) :
    Meets (Builtin.«enumerate.__new__» ⟨[.type "enumerate", v], []⟩) (fun _ R s => H s.heap ∧
      R (.ok (.ret (.ref (s.heap.push o).objs.size))) { s with heap := (s.heap.push o).push { cls := .type "enumerate", data := .fields #[.none, .bool false, .ref s.heap.objs.size, rawInt 0, .none, .none] } }) :=
  .of_wp fun prog w A R s h => by
    obtain ⟨hp, g, d, tk, os⟩ := s; obtain ⟨h1, h⟩ := h
    have hsub := sub_enumerate
    have q1 : ∀ {A' : Around} {E : Value → Shared → Prop} {Q : Value → Shared → Prop}, Q (.ref hp.objs.size) ⟨hp.push o, g, d, tk, os⟩ → wpAny (model prog w) A' (pyIter v) Q E ⟨hp, g, d, tk, os⟩ :=
      fun q => B.iter prog w _ _ ⟨hp, g, d, tk, os⟩ _ h1 q
    wp_walk using q1
    refine wpAny_stack_any fun st => wpAny_pure ?_
    split
    · rename_i c _ _ _ _ _
      cases (c == Value.type "enumerate")
      · wp_walk using q1
        exact ⟨_, rfl, h⟩
      · wp_walk using q1
        exact ⟨_, rfl, h⟩
    · wp_walk using q1
      exact ⟨_, rfl, h⟩
theorem k11_enum_tuple {prog : Program} {w : World} {A : Around} {E : Value → Shared → Prop} {s : Shared} {t : Addr} {items : Array Value} {Q : Value → Shared → Prop} (hT : s.heap.IsTuple t items)
    (h : ∀ h', IsEnum h' (s.heap.objs.size + 1) s.heap.objs.size 0 .none → h'.IsTupleIter s.heap.objs.size t 0 → h'.objs.size = s.heap.objs.size + 2 →
      (∀ b o, s.heap.get? b = some o → h'.get? b = some o) → Q (.ref (s.heap.objs.size + 1)) { s with heap := h' }) :
    wpAny (model prog w) A (call (.type "enumerate") [.ref t]) Q E s := by
  refine callType_new F.called_enumerate (by decide) (F.typeCall_enumerate_1 _) (F.newCall_enumerate_1 _) (fun obj => F.args_object_init_2 obj _) F.entry_enumerate_new
    (k11_enumerate_newB1 (begins_tuple t items)) ⟨hT, ?_⟩
  have hz : (s.heap.push { cls := .type "tuple_iterator", data := .fields #[.ref t, .int 0 0] }).objs.size = s.heap.objs.size + 1 := Heap.size_push ..
  show _ ∧ _
  rw [hz]
  have he : IsEnum ((s.heap.push { cls := .type "tuple_iterator", data := .fields #[.ref t, .int 0 0] }).push
      { cls := .type "enumerate", data := .fields #[.none, .bool false, .ref s.heap.objs.size, rawInt 0, .none, .none] }) (s.heap.objs.size + 1) s.heap.objs.size 0 .none := by
    have := Heap.get?_push_size (s.heap.push { cls := .type "tuple_iterator", data := .fields #[.ref t, .int 0 0] })
      (o := { cls := .type "enumerate", data := .fields #[.none, .bool false, .ref s.heap.objs.size, rawInt 0, .none, .none] }) rfl
    rw [hz] at this; exact this
  refine ⟨⟨_, he, rfl⟩, h _ he ⟨_, Heap.get?_push_of_some _ (Heap.get?_push_size _ rfl), rfl, rfl⟩ (by rw [Heap.size_push, hz]) fun b o x => Heap.get?_push_of_some _ (Heap.get?_push_of_some _ x)⟩
end PySem
namespace K11
open PySem PySem.Spec PyProof.Rows L2

/-! ## enumerate over a tuple -/
def IteT (K : PySem.W.Frag) (a : Addr) : It :=
  ⟨fun i H => ∃ (xs : List V) (x : V), SqT K H a xs ∧ xs[i]? = some x, fun i H v H' => ∃ T x, v = .ref T ∧ H T = none ∧ H' = upd H T (.tup [.int (i : Nat), x]) ∧ ∀ xs, SqT K H a xs → xs[i]? = some x, fun i H => ∃ xs : List V, SqT K H a xs ∧ xs.length ≤ i⟩
theorem turn_enumT {P : Program} {w : World} {K : PySem.W.Frag} {elts : List Expr} {kk : Nat} {tpos : Pos} (a e it : Addr) :
    Turn P w K (.Tuple elts kk tpos) (IteT K a) [e, it] e (fun i h => (∃ old, IsEnum h e it ((i : Nat) : Int) old) ∧ h.IsTupleIter it a i ∧ e ≠ it ∧ a ≠ e ∧ a ≠ it) where
  mem := by simp
  obj := fun i h st b hb => by
    obtain ⟨⟨old, he⟩, ⟨o, ho, hc, hd⟩, _⟩ := st
    have e' : b = e ∨ b = it := by simpa using hb
    rcases e' with z | z
    · rw [z]; exact ⟨_, he, fun v q => nomatch q⟩
    · rw [z]; exact ⟨o, ho, fun v q => by rw [hd] at q; cases q⟩
  keep := fun i h h' st k => let ⟨⟨old, he⟩, hi, hne⟩ := st; ⟨⟨old, k e (by simp) _ he⟩, hi.at fun o q => k it (by simp) o q, hne⟩
  item := by
    intro X hP hw hK hc i pins s σ H E I hf st hg
    subst hP hw hK
    obtain ⟨⟨old, he⟩, hit, hne, hae, hai⟩ := st
    obtain ⟨xs, x, hq, hx⟩ := hg
    obtain ⟨its, rv, p, hz⟩ := I.tuple hq
    obtain ⟨u, hu, ru⟩ := rv.get hx
    have hel : e < s.heap.objs.size := Heap.lt_size he
    have hil : it < s.heap.objs.size := by obtain ⟨_, q, _⟩ := hit; exact Heap.lt_size q
    have D : Draws X.prog X.w X.A.in1 it [it, a] its.toArray.size (fun i v => its.toArray[i]? = some v) (fun i h => h.IsTupleIter it a i ∧ h.IsTuple a its.toArray) := Draws.tuple (show X.A.in1.handled = none from I.ok.hd hc) it a hai its.toArray
    refine wpAny_pyNext_enum_itemD D he ⟨hit, p⟩ (by have := (Array.getElem?_eq_some_iff.mp (show its.toArray[i]? = some u by simpa using hu)).1; exact this) hne (by simp [hne, hae.symm]) fun y h' tk hP ho hit' hT hsz hk => ?_
    have ey : y = u := by
      have h2 : its.toArray[i]? = some u := by simpa using hu
      rw [h2] at hP
      exact (Option.some.inj hP).symm
    subst ey
    refine ⟨_, rfl, wpAny_letOwnedTupleGo_enum (s := { s with heap := h', toks := tk + 1 }) ho fun h'' he' sb => ?_⟩
    have hT2 : h''.get? s.heap.objs.size = some { cls := .type "tuple", data := .seq #[.int i tk, y] } := (sb.2 _ (Nat.ne_of_gt hel)).trans hT
    have new : ObjOk X.prog X.w (upd H s.heap.objs.size (.tup [.int (i : Nat), x])) h'' s.heap.objs.size (.tup [.int (i : Nat), x]) :=
      ⟨by show 2 ≤ sizeLine; decide, [.int i tk, y], .cons ⟨_, rfl⟩ (.cons ru .nil), ⟨_, hT2, rfl, _, rfl⟩⟩
    have I1 : Inv X pins σ (upd H s.heap.objs.size (.tup [.int (i : Nat), x])) { s with heap := h'', toks := tk + 1 } :=
      I.turnedNew (ch := [e, it]) (fun b ob hb q => (sb.2 b (fun z => hb (by simp [z]))).trans (hk b ob (fun z => hb (by simp [z])) (fun z => hb (by simp [z])) q)) hf (Nat.le_refl _) new
    refine ⟨.ref s.heap.objs.size, _, I1, rfl, ⟨_, x, rfl, I.hok.fresh (Nat.le_refl _), rfl, fun ys hy => by rw [I.tuple_inj hy hq]; exact hx⟩, ⟨⟨y, ?_⟩, hit'.1.at fun o q => (sb.2 it (Ne.symm hne)).trans q, hne, hae, hai⟩, fun b hb => ?_⟩
    · have e1 : ((i + 1 : Nat) : Int) = (i : Int) + 1 := by omega
      rw [e1]; exact he'
    · have hb' : b < s.heap.objs.size := by
        have e' : b = e ∨ b = it := by simpa using hb
        rcases e' with z | z
        · rw [z]; exact hel
        · rw [z]; exact hil
      rw [upd_ne (Nat.ne_of_lt hb')]
      exact (hf b hb).1
  done := by
    intro X hP hw hK hc i pins s σ H E I hf st hg
    subst hP hw hK
    obtain ⟨⟨old, he⟩, hit, hne, hae, hai⟩ := st
    obtain ⟨xs, hq, hx⟩ := hg
    obtain ⟨its, rv, p, hz⟩ := I.tuple hq
    obtain ⟨f0, f1, f2, f3, f4, f5⟩ := hf it (by simp)
    have hl := rv.length
    have hle : its.toArray.size ≤ i := by simp; omega
    refine k11_enum_end (I.ok.hd hc) he hit p (by simp; omega) fun h' eb => ⟨rfl, I.turned (t' := s.toks) (fun b o hb q => eb b o hb q) f0 f1 f3 f4 f5⟩
  self := fun A i s Q E st h => let ⟨⟨_, he⟩, _⟩ := st; wpAny_pyIter_enum he h
where
  k11_enum_end {prog : Program} {w : World} {A : Around} {E : Value → Shared → Prop} {s : Shared} {e it l : Addr} {i : Nat} {items : Array Value} {old : Value} {Q : Option Value → Shared → Prop} (hh : A.handled = none)
    (he : IsEnum s.heap e it i old) (hit : s.heap.IsTupleIter it l i) (hl : s.heap.IsTuple l items) (hx : items[i]? = none)
    (hQ : ∀ h', Heap.ExtBut it s.heap h' → Q none { s with heap := h' }) : wpAny (model prog w) A (pyNext (.ref e)) Q E s := by
    have hT : s.TypeIs (.ref e) "enumerate" := ⟨_, he, rfl⟩
    unfold pyNext
    refine wpAny_bind (wpAny_attempt (wpAny_callSpecial?_slot (name := Str.ofString "__next__") hT F.slot_enumerate_next
      (wpAny_call_entry F.slot_enumerate_next hT F.entry_enumerate_next ?_ (F.args_enumerate_next_1 _))))
    show wpAny _ _ (field (.ref e) 2 >>= _) _ _ _
    refine wpAny_bind (wpAny_field he rfl (x := .ref it) rfl ?_)
    refine wpAny_bind (wpAny_nextOf_tuple_end hh hit hl hx fun h' x he' hx' => ?_)
    obtain ⟨o, ho, hc⟩ := hx'
    refine wpAny_bind (wpAny_isInstance (T := "StopIteration") (b := true) ⟨o, ho, hc⟩ isSubtype_stop ?_)
    exact wpAny_pure (hQ _ he')
def iEnumA (K : PySem.W.Frag) (ta : TA) : TI := fun σ H R => ta σ H fun vs H1 => ∃ a xs, vs = [.ref a] ∧ ((SqL K H1 a xs ∧ R (Ite K a) H1) ∨ (SqT K H1 a xs ∧ R (IteT K a) H1))
theorem pi_enumA {X : Cx} {e : Expr} {ta : TA} {p pos tpos : Pos} {elts : List Expr} {kk : Nat} (hg : Gl X "enumerate") (hm : X.mg "enumerate" = none) (ha : PA X [e] ta) (hs : starEach [e] X.env = [(false, eval e X.env)] := by rfl) :
    PI X (.Tuple elts kk tpos) (.Call (.Name "enumerate" p) [e] [] pos) (iEnumA X.K ta) := by
  refine ⟨fun pins s σ H R I h => ?_⟩
  refine Call_ (ld_blt I hg hm boot_enumerate (PyProof.Rows.callWith_type1 (thn (ha.run pos pins s σ H _ I h) fun us s1 ⟨vs, H1, I1, r1, q1⟩ => ?_) hs rfl))
  obtain ⟨a, xs, ex, q⟩ := q1
  subst ex
  cases r1 with
  | cons r rr =>
    cases rr
    cases r
    rcases q with ⟨hq, q⟩ | ⟨hq, q⟩
    · obtain ⟨its, rv, p', hz⟩ := I1.list hq
      refine call_enumerate_list p'.isList fun h' he hit hsz hk => wpAny_pyIter_enum he ?_
      have I2 : Inv X pins σ H1 { s1 with heap := h' } := I1.kept (t' := s1.toks) hk
      refine ⟨s1.heap.objs.size + 1, [s1.heap.objs.size + 1, s1.heap.objs.size], _, _, H1, rfl, I2, turn_enum a (s1.heap.objs.size + 1) s1.heap.objs.size, ⟨⟨.none, he⟩, hit, Nat.succ_ne_self _⟩, fun b hb => ?_, q⟩
      have e' : b = s1.heap.objs.size + 1 ∨ b = s1.heap.objs.size := by simpa using hb
      have hle : s1.heap.objs.size ≤ b := by
        rcases e' with z | z
        · rw [z]; exact Nat.le_add_right _ _
        · rw [z]; exact Nat.le_refl _
      exact I1.fpOk hle (I1.hok.fresh hle)
    · obtain ⟨its, rv, p', hz⟩ := I1.tuple hq
      have hal : a < s1.heap.objs.size := by obtain ⟨o, ho, _⟩ := p'; exact Heap.lt_size ho
      refine k11_enum_tuple (show s1.heap.IsTuple a its.toArray from p') fun h' he hit hsz hk => wpAny_pyIter_enum he ?_
      have I2 : Inv X pins σ H1 { s1 with heap := h' } := I1.kept (t' := s1.toks) hk
      refine ⟨s1.heap.objs.size + 1, [s1.heap.objs.size + 1, s1.heap.objs.size], _, _, H1, rfl, I2, turn_enumT a (s1.heap.objs.size + 1) s1.heap.objs.size, ⟨⟨.none, he⟩, hit, Nat.succ_ne_self _, Nat.ne_of_lt (Nat.lt_succ_of_lt hal), Nat.ne_of_lt hal⟩, fun b hb => ?_, q⟩
      have e' : b = s1.heap.objs.size + 1 ∨ b = s1.heap.objs.size := by simpa using hb
      have hle : s1.heap.objs.size ≤ b := by
        rcases e' with z | z
        · rw [z]; exact Nat.le_add_right _ _
        · rw [z]; exact Nat.le_refl _
      exact I1.fpOk hle (I1.hok.fresh hle)
theorem walk_enumT {K : PySem.W.Frag} {a : Addr} {xs : List V} : Walk (IteT K a) xs.length (fun H => SqT K H a xs) (YPair (fun i => some (.int (i : Nat))) fun i => xs[i]?) :=
  ⟨fun i H hi q => ⟨xs, xs[i], q, by simp [hi]⟩, fun H q => ⟨xs, q, Nat.le_refl _⟩, fun i H v H' hi q y => by
    obtain ⟨T, x, e1, hT, e2, h⟩ := y
    exact ⟨T, _, x, e1, hT, e2, rfl, h xs q⟩⟩
def seqD : D → Option (List D)
  | .lst l => some l
  | .tup l => some l
  | _ => none
section
variable {B : Bs} {Γ : Ctx} {R R' : D → Prop} {te ta tb tc td ty tv : TE} {tt tu : TT} {P : Po} {t u : TS}
theorem wi_enumA {ta : TA} {L : List D → Prop} (h : WA B ta Γ fun ds => ∃ d xs, ds = [d] ∧ seqD d = some xs ∧ L (enumD xs)) : WI B (iEnumA B.W.K ta) Γ L := fun M σ H S Q q => h M σ H S _ fun vs H1 ds S1 e r ⟨d, xs, hd, hs, hl⟩ => by
  subst hd
  cases r with
  | cons r1 r2 =>
    cases r2
    cases r1 with
    | lst h1 rs =>
      cases hs
      refine ⟨_, _, rfl, .inl ⟨.of (cut_some.mp h1).2, q _ H1 _ _ _ S1 e hl (src_pair walk_enum (by rw [enum_len, rs.length]) (fun M1 H2 s => .of (cut_same _ _ (s _ _ h1))) fun i x y hi e1 e2 => ?_)⟩⟩
      obtain ⟨b, g2, k2⟩ := rs.get e2
      obtain rfl : V.int (i : Nat) = x := Option.some.inj e1
      exact ⟨_, b, enum_get g2, .int _, k2⟩
    | tup h1 rs =>
      cases hs
      refine ⟨_, _, rfl, .inr ⟨same_t cut_same h1.sq, q _ H1 _ _ _ S1 e hl (src_pair walk_enumT (by rw [enum_len, rs.length]) (fun M1 H2 s => same_t cut_same (same_t s h1.sq)) fun i x y hi e1 e2 => ?_)⟩⟩
      obtain ⟨b, g2, k2⟩ := rs.get e2
      obtain rfl : V.int (i : Nat) = x := Option.some.inj e1
      exact ⟨_, b, enum_get g2, .int _, k2⟩
    | _ => cases hs

/-! ## slices up to a place -/
theorem cut_take {W : Wd} {H : Hp} {xs : List V} {ds : List D} (r : Reps W H xs ds) (n : Nat) : Reps W H (cutV xs none (some (n : Int))) (ds.take n) := by
  unfold cutV
  rw [HT.sIx_none, HT.sIx_nat, List.drop_zero, Nat.sub_zero]
  have e : ∀ {α : Type} (l : List α), l.take (min n l.length) = l.take n := fun l => by
    rcases Nat.le_total n l.length with h | h
    · rw [Nat.min_eq_left h]
    · rw [Nat.min_eq_right h, List.take_of_length_le h, List.take_of_length_le (Nat.le_refl _)]
  rw [e xs]
  exact r.take n
def rSl (K : PySem.W.Frag) : V → Option Int → Option Int → Hp → VK → Prop := fun x lo hi H Q => rSlL K x lo hi H Q ∨ rSlA K x lo hi H Q
theorem sl_any {X : Cx} : SlR X (rSl X.K) := sl_list.or sl_tupA
/-- `x[:n]` looked at as data: what kind it is the same as x's -/
def likeD : D → List D → D
  | .tup _, l => .tup l
  | _, l => .lst l
theorem we_slice {n : Nat} (h : WE B te Γ fun d => ∃ xs, seqD d = some xs ∧ WE B tb Γ fun e => ∃ n : Nat, e = .int n ∧ R (likeD d (xs.take n))) : WE B (tSl (rSl B.W.K) te tNoPart (tPart tb)) Γ R := fun M σ H S Q q => h M σ H S _ fun v H1 d S1 e r ⟨xs, hs, h2⟩ =>
  h2 M σ H1 S1 _ fun w H2 y S2 e2 r2 ⟨n, ey, hr⟩ => by
    subst ey
    refine ⟨n, r2.int_inv, ?_⟩
    cases r.mono e2.cut with
    | lst h1 rs =>
      cases hs
      refine .inl ⟨_, _, rfl, .of (cut_some.mp h1).2, fun p hp => ?_⟩
      exact q _ _ _ (S2.alloc hp) ((e.trans e2).trans (S2.new_ hp)) (.lst (cut_some.mpr ⟨S2.notM hp, upd_same⟩) ((cut_take rs n).mono (cut_alloc' hp))) hr
    | tup h1 rs =>
      cases hs
      have et : xs.length ≤ n → xs.take n = xs := fun h => List.take_of_length_le h
      refine .inr ⟨_, _, rfl, same_t cut_same h1.sq, fun ⟨z1, z2⟩ => ?_, fun z p hp => ?_⟩
      · rw [HT.sIx_nat, rs.length] at z2
        have hr' := hr
        rw [et (by omega)] at hr'
        exact q _ H2 _ S2 (e.trans e2) (.tup h1 rs) hr'
      · exact q _ _ _ (S2.alloc hp) ((e.trans e2).trans (S2.new_ hp)) (.tup (.inl (cut_some.mpr ⟨S2.notM hp, upd_same⟩)) ((cut_take rs n).mono (cut_alloc' hp))) hr
    | _ => cases hs
/-! ## starred items -/
theorem wa_star {t : TA} {R : List D → Prop} (h : WE B ta Γ fun x => ∃ l, seqD x = some l ∧ WA B t Γ fun xs => R (l ++ xs)) : WA B (StX.tStar B.W.K ta t) Γ R := fun M σ H S Q q =>
  h M σ H S _ fun v H1 x S1 e1 r1 ⟨l, hs, h1⟩ => by
    cases r1 with
    | lst ha rs =>
      cases hs
      exact ⟨_, _, rfl, .inr (.of (cut_some.mp ha).2), h1 M σ H1 S1 _ fun vs H2 xs S2 e2 r2 hr => q _ H2 _ S2 (e1.trans e2) ((rs.mono e2.cut).app r2) hr⟩
    | tup ha rs =>
      cases hs
      exact ⟨_, _, rfl, .inl (same_t cut_same ha.sq), h1 M σ H1 S1 _ fun vs H2 xs S2 e2 r2 hr => q _ H2 _ S2 (e1.trans e2) ((rs.mono e2.cut).app r2) hr⟩
    | _ => cases hs
/-! ## dict(pairs) -/
def pairD (p : Str × D) : D := .tup [.str p.1, p.2]
def rDictP (K : PySem.W.Frag) : List V → Hp → VK → Prop := fun xs H Q => ∃ (a : Addr) (ps : List Addr) (kvs : List (Key × V)), xs = [.ref a] ∧ SqL K H a (ps.map V.ref) ∧ Paired (fun p kv => SqT K H p [kV kv.1, kv.2]) ps kvs ∧
    ∀ p, H p = none → Q (.ref p) (upd H p (.dK (mergeK [] kvs)))
theorem call_dictP2 {X : Cx} (hc : X.calm = true) : CallR X (.type "dict") (rDictP X.K) := call_dictP hc
theorem pairs_inv {W : Wd} {M : Addr → Prop} {H : Hp} : ∀ {vs : List V} {l : List (Str × D)}, Reps W (cut M H) vs (l.map pairD) → ∃ ps kvs, vs = ps.map V.ref ∧ Paired (fun p (kv : Key × V) => SqT W.K H p [kV kv.1, kv.2]) ps kvs ∧ RepK W (cut M H) kvs l
  | _, [], h => by cases h; exact ⟨[], [], rfl, .nil, .nil⟩
  | _, p :: l, h => by
    cases h with
    | cons a r =>
      obtain ⟨ps, kvs, e, q1, q2⟩ := pairs_inv (l := l) r
      cases a with
      | tup h1 rs =>
        cases rs with
        | cons ra rs => cases rs with
          | cons rb rs =>
            cases rs
            rw [ra.str_inv] at h1
            refine ⟨_ :: ps, (.inr p.1, _) :: kvs, by rw [e]; rfl, .cons (same_t cut_same h1.sq) q1, .cons rb q2⟩
theorem wk_dictP {R : List (Str × D) → Prop} (h : WE B te Γ fun d => ∃ l : List (Str × D), d = .lst (l.map pairD) ∧ R (mergeS [] l)) : WK B (tCB (rDictP B.W.K) (tCons te tNil)) Γ R := fun M σ H S Q q => h M σ H S _ fun v H1 d S1 x r ⟨l, ed, hr⟩ => by
  subst ed
  cases r with
  | lst h1 rs =>
    obtain ⟨ps, kvs, e, q1, q2⟩ := pairs_inv rs
    subst e
    refine ⟨_, ps, kvs, rfl, .of (cut_some.mp h1).2, q1, fun p hp => ?_⟩
    exact q p _ _ _ (S1.alloc hp) (x.trans (S1.new_ hp)) (fresh_ext S1 x hp) upd_same ((q2.merge .nil).mono (cut_alloc hp)) hr
/-! ## dict comprehensions -/
theorem wk_dc {wi : TI} {g : TG} {tk tv : TE} {vs : List Nat} {R : List (Str × D) → Prop} (go : GOnly g vs) (h : WI B wi Γ fun ds => ds.length ≤ 5000 ∧ ∃ I : Nat → List (Str × D) → Prop, I 0 [] ∧
    (∀ i d acc, ds[i]? = some d → I i acc → WG B g d (wipeC Γ vs) fun Γ2 => WT B tt Γ2 fun b => (b = true → WE B tk Γ2 fun x => ∃ k, x = .str k ∧ WE B tv Γ2 fun y => I (i + 1) (putS acc k y)) ∧ (b = false → I (i + 1) acc)) ∧ ∀ acc, I ds.length acc → R acc) :
    WK B (tDc wi g tt tk tv vs) Γ R := by
  intro M σ H S Q q
  refine h M σ H S _ fun J H1 ds G Y S1 x ⟨hl, I, i0, step, done⟩ sr A hA => ?_
  have f0 := fresh_ext S1 x hA
  have sA : Fx B.W.pot M H1 (upd H1 A (.dK [])) := S1.new_ hA
  have SA := (S1.alloc (o := .dK []) hA)
  obtain ⟨SO, o⟩ := S1.own SA sA hA upd_same
  have nA : ¬ M A := S1.notM hA
  obtain ⟨hgo, hstop, hyld⟩ := sr.walk
  refine ⟨fun i m H' => m = ds.length - i ∧ i ≤ ds.length ∧ ∃ acc l, Stt B (addM M A) H' (L2.wipe σ vs) (wipeC Γ vs) ∧ Fx B.W.pot M H1 H' ∧ Same (cut M H1) (cut (addM M A) H') ∧ H' A = some (.dK acc) ∧ RepK B.W (cut (addM M A) H') acc l ∧ l.length ≤ i ∧ I i l,
    ⟨ds.length, by simp, Nat.zero_le _, [], [], SO.wipe vs, sA, cut_gain hA sA.ext, upd_same, .nil, Nat.le_refl _, i0⟩, ?_⟩
  rintro i m H' ⟨rfl, hi, acc, l, S', x', s, hD, ra, ll, hI⟩
  have hG := sr.stays _ _ s
  by_cases hlt : i < ds.length
  · refine .inr ⟨hgo i H' hlt hG, fun H3 => i + 1 ≤ ds.length ∧ ∃ acc l, Stt B (addM M A) H3 (L2.wipe σ vs) (wipeC Γ vs) ∧ Fx B.W.pot M H1 H3 ∧ Same (cut M H1) (cut (addM M A) H3) ∧ H3 A = some (.dK acc) ∧ RepK B.W (cut (addM M A) H3) acc l ∧ l.length ≤ i + 1 ∧ I (i + 1) l,
      fun H3 ⟨hl, z⟩ => ⟨ds.length - (i + 1), by omega, rfl, hl, z⟩, fun v H2 y => ?_⟩
    have y' := hyld i H' v H2 hlt hG y
    obtain ⟨hH, d, hd, rd⟩ := sr.gives i _ H' v H2 hlt s S'.dom y'
    have S2 : Stt B (addM M A) H2 (L2.wipe σ vs) (wipeC Γ vs) ∧ Fx B.W.pot (addM M A) H' H2 := by
      rcases hH with rfl | ⟨T, o, hT, rfl⟩
      · exact ⟨S', Fx.refl⟩
      · exact ⟨S'.alloc hT, S'.new_ hT⟩
    obtain ⟨S2, x2⟩ := S2
    have na := (S1.wipe vs).apart nA
    refine (go.w v σ H2 _ (step i d l hd hI _ _ H2 v S2 rd _ fun σ3 Γ3 S3 w => ?_))
    have up : ∀ {H4 : Hp}, Fx B.W.pot (addM M A) H2 H4 → Fx B.W.pot M H1 H4 ∧ Same (cut M H1) (cut (addM M A) H4) ∧ H4 A = some (.dK acc) ∧ RepK B.W (cut (addM M A) H4) acc l := fun {H4} x4 => by
      have x5 := x2.trans x4
      refine ⟨⟨fun b o n z => ?_, fun m hm n => (x5.own m (.inl hm) n).trans (x'.own m hm n)⟩, s.trans x5.cut, (x5.own A (.inr rfl) o.np).trans hD, ra.mono x5.cut⟩
      have nb : b ≠ A := ne_of_none z hA
      exact x5.ext b o (fun zz => zz.elim n nb) (x'.ext b o n z)
    refine w _ σ3 H2 S3 _ fun b H4 S4 x4 ⟨k1, k2⟩ => ?_
    have back : ∀ {H5 : Hp}, Stt B (addM M A) H5 σ3 Γ3 → Fx B.W.pot (addM M A) H2 H5 → Stt B (addM M A) H5 (L2.wipe σ vs) (wipeC Γ vs) := fun {H5} S5 x5 => S2.fx x5 S5.pt
    cases b with
    | true =>
      rw [if_pos rfl]
      refine k1 rfl _ σ3 H4 S4 _ fun wk H5 yk S5 x5 r5 ⟨k, ek, k3⟩ => k3 _ σ3 H5 S5 _ fun wv H6 yv S6 x6 r6 q6 => ?_
      subst ek
      obtain ⟨u1, u2, u3, u4⟩ := up ((x4.trans x5).trans x6)
      refine ⟨acc, .inr k, r5.str_inv, u3, by rw [u4.length]; exact Nat.lt_of_le_of_lt (show l.length ≤ 5000 by omega) (by decide), hlt, putK acc (.inr k) wv, putS l k yv, ?_⟩
      have sm : Same (cut (addM M A) H6) (cut (addM M A) (upd H6 A (.dK (putK acc (.inr k) wv)))) := cut_upd (.inr rfl)
      have S7 := back S6 ((x4.trans x5).trans x6)
      refine ⟨S7.touch (.inr rfl) o.np o.h0 na, ⟨fun b o n z => by rw [upd_ne (ne_of_none z hA)]; exact u1.ext b o n z, fun m hm n => by rw [upd_ne (fun zz => nA (by rw [← zz]; exact hm))]; exact u1.own m hm n⟩, u2.trans sm, upd_same, (u4.put r6 k).mono sm, Nat.le_trans (putS_len l k yv) (Nat.succ_le_succ ll), q6⟩
    | false =>
      rw [if_neg Bool.false_ne_true]
      obtain ⟨u1, u2, u3, u4⟩ := up x4
      exact ⟨hlt, acc, l, back S4 x4, u1, u2, u3, u4, Nat.le_succ_of_le ll, k2 rfl⟩
  · have ei : i = ds.length := by omega
    subst ei
    exact .inl ⟨hstop H' hG, q A acc H' l (S1.fx x' S'.pt) (x.trans x') f0 hD ra (done l hI)⟩
/-! ## isinstance(x, (list, tuple)) -/
def isSeqD : D → Bool
  | .lst _ => true
  | .tup _ => true
  | .nl _ => true
  | .pot => true
  | _ => false
end
end K11

/-! K11Q: is_list, is_name, is_link, in_sequence. -/
namespace K11
open PySem PySem.Spec PyProof.Rows L2

/-- the built-ins are not shadowed -/
structure Mb (mg : Str → Option Value) : Prop where
  len : mg "len" = none
  isinstance : mg "isinstance" = none
  list : mg "list" = none
  tuple : mg "tuple" = none
  sorted : mg "sorted" = none
  range : mg "range" = none
  enumerate : mg "enumerate" = none
  zip : mg "zip" = none
  dict : mg "dict" = none
  str : mg "str" = none
  int : mg "int" = none
  abs : mg "abs" = none
  max : mg "max" = none
  min : mg "min" = none
  all : mg "all" = none
  any : mg "any" = none
  repr : mg "repr" = none
def letS : Str := "abcdefghijklmnopqrstuvwxyz"
structure Gt (mg : Str → Option Value) (C : Addr) : Prop where
  letters : ∃ t, mg "LETTERS" = some (.str letS t)
  longest : ∃ t, mg "LONGEST_NAME" = some (.int 8 t)
  net : mg "Net" = some (.ref C)

def nameOk (s : Str) : Bool := decide (1 ≤ s.length) && decide (s.length ≤ 8) && s.cps.toList.all fun c => decide (c ∈ letS.cps.toList)
def nameD : D → Bool
  | .str s => nameOk s
  | _ => false
def linkD : D → Bool
  | .tup [.str a, .str b] => nameOk a && nameOk b && !decide (a = b)
  | _ => false
section
variable {B : Bs} {Γ : Ctx} {R : D → Prop}
theorem kit_seq {K : PySem.W.Frag} {C : Addr} (T : NetT K C) {d : D} (hd : d.inst = true) : PySem.W.kitAny K (tyD C d) [.type "list", .type "tuple"] = some (isSeqD d) := by
  cases d with
  | net _ _ _ => exact kitAny_cons T.isL (fun _ => kitAny_cons T.isT (fun _ => rfl) (fun z => nomatch z)) (fun z => nomatch z)
  | ty _ => cases hd
  | cls => cases hd
  | lst l => exact kitAny_cons (b := true) (kit_ty (by decide +kernel)) (fun z => nomatch z) (fun _ => rfl)
  | nl l => exact kitAny_cons (b := true) (kit_ty (by decide +kernel)) (fun z => nomatch z) (fun _ => rfl)
  | pot => exact kitAny_cons (b := true) (kit_ty (by decide +kernel)) (fun z => nomatch z) (fun _ => rfl)
  | tup l => exact kitAny_cons (b := false) (kit_ty (by decide +kernel)) (fun _ => kitAny_cons (b := true) (kit_ty (by decide +kernel)) (fun z => nomatch z) (fun _ => rfl)) (fun z => nomatch z)
  | _ => exact kitAny_cons (b := false) (kit_ty (by decide +kernel)) (fun _ => kitAny_cons (b := false) (kit_ty (by decide +kernel)) (fun _ => rfl) (fun z => nomatch z)) (fun z => nomatch z)
theorem vc_isiSeq (T : NetT B.W.K B.W.C) {d : D} (hd : d.inst = true) (q : R (.bl (isSeqD d))) : VC B (rIsiT B.W.K) [d, .tup [.ty "list", .ty "tuple"]] R := fun M H v r pt _ _ Q k => by
  cases r with
  | cons r1 r2 => cases r2 with
    | cons r2 r3 =>
      cases r3
      cases r2 with
      | tup h1 rs =>
        cases rs with
        | cons ra rs => cases rs with
          | cons rb rs =>
            cases rs
            cases ra
            cases rb
            exact ⟨_, _, _, tyD B.W.C d, _, _, rfl, (cut_some.mp h1.at_).2, .cons (.ty "list") (.cons (.ty "tuple") .nil), rep_ty T pt hd r1, kit_seq T hd, k _ H _ (fun _ _ => rfl) (Same.refl H) (.bl _) q⟩
theorem we_glob_str {s : Str} (q : R (.str s)) : WE B (tC (.str s)) Γ R := we_str q
end

local macro_rules | `(tactic| walk_at "w") => `(tactic| (first
  | (with_reducible refine ws_seq ?_)
  | (with_reducible refine ws_ret ?_)
  | (with_reducible refine ws_if ?_)
  | (with_reducible refine ws_asg ?_)
  | (with_reducible refine ws_break ?_)
  | (with_reducible refine we_var (by with_unfolding_all rfl) ?_)
  | (with_reducible refine we_int ?_)
  | (with_reducible refine we_str ?_)
  | (with_reducible refine we_bl ?_)
  | (with_reducible refine we_non ?_)
  | (with_reducible refine we_ty ?_)
  | (with_reducible refine wa_cons ?_)
  | (with_reducible refine wa_nil ?_)
  | (with_reducible refine we_cb ?_)
  | (with_reducible refine vc_lenL ?_)
  | (with_reducible refine vc_lenT ?_)
  | (with_reducible refine v2_B0 ?_)
  | (with_reducible refine we_call ?_)
  | (with_reducible refine we_op ?_)
  | (with_reducible refine we_tup ?_)
  | (with_reducible refine we_if ?_)
  | (with_reducible refine we_chain ?_)
  | (with_reducible refine wt_test ?_)
  | (with_reducible refine wt_B ?_)
  | (with_reducible refine wt_not ?_)
  | (with_reducible refine wt_or ?_)
  | (with_reducible refine wt_and ?_)))

section
variable {P : Program} {w : World} {K : PySem.W.Frag} {mg : Str → Option Value} {base : Heap} {C : Addr}

abbrev sIsList : Stmt := top 18
abbrev nIsList : List Str := ["value"]
theorem scIsList : FnScope nIsList ["value"] (defScope sIsList) := ⟨rfl, rfl, rfl, by decide +kernel, rfl, by decide +kernel, by decide +kernel⟩
theorem cl_is_list (F : Fd K mg "is_list" ["value"] sIsList) (M : Mb mg) (T : NetT K C) : Cl P w K mg base 1 "is_list" ["value"] (SpD K C (fun ds => ∃ d, ds = [d] ∧ d.inst = true) fun ds r => ∀ d, ds = [d] → r = .bl (isSeqD d)) := F.cl fun f fd F => by
  refine fnD F scIsList (fun ds ⟨d, e, _⟩ => by rw [e]; rfl) fun cdv A outer s H E hr => ?_
  refine ⟨_, (pss_one (ps_ret (pe_callB call_isiT (by rfl) M.isinstance (by decide +kernel) (pa_cons (pv 0) (pa_cons (pe_tup (pa_cons (pe_bltn (v := .ty "list") (by rfl) M.list (by decide +kernel) rfl) (pa_cons (pe_bltn (v := .ty "tuple") (by rfl) M.tuple (by decide +kernel) rfl) pa_nil))) pa_nil))))), fun pot old M H ds hp => ?_⟩
  obtain ⟨d, rfl, hi⟩ := hp
  dsimp only [cxOf, Cx.nox, Cx.wish]
  show WS _ _ [.da d] _
  repeat (walk_at "w")
  refine ⟨by decide, ?_⟩
  repeat (walk_at "w")
  refine vc_isiSeq T hi fun d' e => ?_
  cases e
  rfl

abbrev sIsName : Stmt := top 19
abbrev nIsName : List Str := ["value", "sign"]
theorem scIsName : FnScope nIsName ["value"] (defScope sIsName) := ⟨rfl, rfl, rfl, by decide +kernel, rfl, by decide +kernel, by decide +kernel⟩
def preName : List D → Prop := fun ds => ∃ d, ds = [d] ∧ d.inst = true ∧ ∀ s, d = .str s → s.length ≤ 1000
def postName : List D → D → Prop := fun ds r => ∀ d, ds = [d] → r = .bl (nameD d)
theorem cl_is_name (F : Fd K mg "is_name" ["value"] sIsName) (M : Mb mg) (G : Gt mg C) (T : NetT K C) : Cl P w K mg base 1 "is_name" ["value"] (SpD K C preName postName) := F.cl fun f fd F => by
  obtain ⟨⟨t1, g1⟩, ⟨t2, g2⟩, g3⟩ := G
  refine fnD F scIsName (fun ds ⟨d, e, _⟩ => by rw [e]; rfl) fun cdv A outer s H E hr => ?_
  refine ⟨_, (pss_cons (ps_if (PW.pt (pw_or (pt_not (pt_val (pe_callB call_isi (by rfl) M.isinstance (by decide +kernel) (pa_cons (pv 0) (pa_cons (pe_bltn (v := .ty "str") (by rfl) M.str (by decide +kernel) rfl) pa_nil))))) (pw_or1 (pt_not (pt_chain op_le op_le pe_int (pe_callB call_len_str (by rfl) M.len PySem.boot_len (pa_cons (pv 0) pa_nil)) (pe_glob (v := .int 8) (by rfl) g2 ⟨_, rfl⟩)))))) (pss_one (ps_ret pe_bl)) pss_nil)
    (pss_cons (ps_forE PassesOwn.never rfl (pi_str (pv 0)) (pg_name (i := 1) scIsName.nd rfl (by first | exact Or.inl rfl | exact Or.inr rfl)) (pss_one (ps_if (pt_cmpR op_notIn_sign (pv 1) (pe_glob (v := .str letS) (by rfl) g1 ⟨_, rfl⟩) (by rfl)) (pss_one ps_break) pss_nil)) (pss_one (ps_ret pe_bl)))
    (pss_one (ps_ret pe_bl)))), fun pot old M H ds hp => ?_⟩
  obtain ⟨d, rfl, hi, hl⟩ := hp
  dsimp only [cxOf, Cx.nox, Cx.wish]
  show WS _ _ [.da d, .no] _
  repeat (walk_at "w")
  refine vc_isiStr T hi ⟨_, rfl, fun e => ⟨fun _ => ?_, fun z => nomatch z⟩, fun e => ?_⟩
  · repeat (walk_at "w")
    intro d' e'
    cases e'
    cases d with
    | str s => cases e
    | _ => rfl
  obtain ⟨s, rfl⟩ : ∃ s, d = .str s := by cases d <;> first | exact ⟨_, rfl⟩ | cases e
  have hs := hl s rfl
  repeat (walk_at "w")
  refine vc_lenS hs ?_
  repeat (walk_at "w")
  have no : ∀ b : Bool, nameOk s = b → postName [D.str s] (.bl b) := fun b h d' e => by cases e; show _ = D.bl (nameOk s); rw [h]
  have lend : ∀ h : nameOk s = false, WS (bs K C pot old M H) (tRet (tC (V.bl false))) [Ent.da (.str s), Ent.no] (poD (postName [.str s])) := fun h => ws_ret (we_bl (no _ h))
  refine ⟨_, rfl, fun h1 => ?_, fun h1 => ?_⟩
  · have h1' : 1 ≤ s.length := by have := of_decide_eq_true h1; omega
    repeat (walk_at "w")
    refine ⟨_, rfl, fun h2 => ?_, fun h2 => ?_⟩
    · have h2' : ¬ s.length ≤ 8 := by
        have : (8 : Int) < s.length := by simpa using h2
        omega
      repeat (walk_at "w")
      exact no _ (by unfold nameOk; simp [h2'])
    · have h2' : s.length ≤ 8 := by
        have : (s.length : Int) ≤ 8 := by simpa using h2
        omega
      refine ws_next ?_
      repeat (walk_at "w")
      refine ws_forE (wi_str ?_)
      repeat (walk_at "w")
      refine ⟨s, rfl, fun i Γ1 => (∃ e, Γ1 = [.da (.str s), e]) ∧ ∀ j c, j < i → s.cps.toList[j]? = some c → c ∈ letS.cps.toList, ⟨⟨_, rfl⟩, fun j c h => by omega⟩, ?_, ?_⟩
      · rintro i d Γ1 hd ⟨⟨e1, rfl⟩, hI⟩
        rw [List.getElem?_map] at hd
        obtain ⟨c, hc, rfl⟩ := Option.map_eq_some_iff.mp hd
        refine wg_name ?_
        show WS _ _ [.da (.str s), .da (.str ⟨#[c]⟩)] _
        repeat (walk_at "w")
        refine v2_nsign ⟨_, rfl, fun h => ?_, fun h => ?_⟩
        · refine ws_break ?_
          repeat (walk_at "w")
          refine no _ ?_
          unfold nameOk
          have hn : c ∉ letS.cps.toList := by simpa using h
          rw [Bool.and_eq_false_iff]
          right
          rw [List.all_eq_false]
          exact ⟨c, List.mem_of_getElem? hc, by simpa using hn⟩
        · refine ws_next ⟨⟨_, rfl⟩, fun j c' hj hc' => ?_⟩
          rcases Nat.lt_succ_iff_lt_or_eq.mp hj with z | z
          · exact hI j c' z hc'
          · subst z
            rw [hc] at hc'
            cases hc'
            simpa using h
      · rintro Γ1 ⟨⟨e1, rfl⟩, hI⟩
        repeat (walk_at "w")
        refine no _ ?_
        unfold nameOk
        rw [Bool.and_eq_true, Bool.and_eq_true, List.all_eq_true]
        refine ⟨⟨decide_eq_true h1', decide_eq_true h2'⟩, fun c hc => ?_⟩
        obtain ⟨j, hj⟩ := List.mem_iff_getElem?.mp hc
        refine decide_eq_true (hI j c ?_ hj)
        rw [List.length_map]
        exact (List.getElem?_eq_some_iff.mp hj).1
  · have h1' : ¬ 1 ≤ s.length := by have := of_decide_eq_false h1; omega
    refine ⟨_, rfl, fun _ => ?_, fun z => nomatch z⟩
    repeat (walk_at "w")
    exact no _ (by unfold nameOk; simp [h1'])

abbrev sIsLink : Stmt := top 20
abbrev nIsLink : List Str := ["value"]
theorem scIsLink : FnScope nIsLink ["value"] (defScope sIsLink) := ⟨rfl, rfl, rfl, by decide +kernel, rfl, by decide +kernel, by decide +kernel⟩
/-- texts of moderate length, all through -/
def smallD : D → Prop
  | .str s => s.length ≤ 1000
  | .tup l => ∀ d ∈ l, d.inst = true ∧ ∀ s, d = .str s → s.length ≤ 1000
  | _ => True
def preLink : List D → Prop := fun ds => ∃ d, ds = [d] ∧ d.inst = true ∧ ∀ l, d = .tup l → ∀ e ∈ l, e.inst = true ∧ ∀ s, e = .str s → s.length ≤ 1000
def postLink : List D → D → Prop := fun ds r => ∀ d, ds = [d] → r = .bl (linkD d)
theorem cl_is_link (F : Fd K mg "is_link" ["value"] sIsLink) (M : Mb mg) (T : NetT K C) (c_is_name : Cl P w K mg base 1 "is_name" ["value"] (SpD K C preName postName)) : Cl P w K mg base 2 "is_link" ["value"] (SpD K C preLink postLink) := F.cl fun f fd F => by
  refine fnD F scIsLink (fun ds ⟨d, e, _⟩ => by rw [e]; rfl) fun cdv A outer s H E hr => ?_
  refine ⟨_, (pss_cons (ps_if (PW.pt (pw_or (pt_not (pt_val (pe_callB call_isi (by rfl) M.isinstance (by decide +kernel) (pa_cons (pv 0) (pa_cons (pe_bltn (v := .ty "tuple") (by rfl) M.tuple (by decide +kernel) rfl) pa_nil))))) (pw_or1 (pt_cmpR op_ne (pe_callB call_len2 (by rfl) M.len PySem.boot_len (pa_cons (pv 0) pa_nil)) pe_int (nomark _))))) (pss_one (ps_ret pe_bl)) pss_nil)
    (pss_one (ps_ret (pe_and (pcl c_is_name (hr.mono (by decide)) (pa_cons (pe_ix ix_tup (pv 0) pe_int (fun _ _ => rfl)) pa_nil)) (pe_and (pcl c_is_name (hr.mono (by decide)) (pa_cons (pe_ix ix_tup (pv 0) pe_int (fun _ _ => rfl)) pa_nil)) (pe_one (pe_cmpR op_ne (pe_ix ix_tup (pv 0) pe_int (fun _ _ => rfl)) (pe_ix ix_tup (pv 0) pe_int (fun _ _ => rfl)) (nomark _)))))))), fun pot old M H ds hp => ?_⟩
  obtain ⟨d, rfl, hi, hl⟩ := hp
  dsimp only [cxOf, Cx.nox, Cx.wish]
  show WS _ _ [.da d] _
  repeat (walk_at "w")
  have no : ∀ b : Bool, linkD d = b → postLink [d] (.bl b) := fun b h d' e => by cases e; rw [h]
  refine vc_isiTup T hi ⟨_, rfl, fun e => ⟨fun _ => ?_, fun z => nomatch z⟩, fun e => ?_⟩
  · repeat (walk_at "w")
    refine no _ ?_
    cases d with
    | tup l => cases e
    | _ => rfl
  obtain ⟨l, rfl⟩ : ∃ l, d = .tup l := by cases d <;> first | exact ⟨_, rfl⟩ | cases e
  have hs := hl l rfl
  repeat (walk_at "w")
  refine v2_neII ⟨_, rfl, fun h1 => ?_, fun h1 => ?_⟩
  · repeat (walk_at "w")
    refine no _ ?_
    have hn : l.length ≠ 2 := fun z => by rw [z] at h1; revert h1; decide
    match l, hn with
    | [], _ => rfl
    | [x], _ => cases x <;> rfl
    | [_, _], h => exact absurd rfl h
    | x :: y :: _ :: _, _ => cases x <;> cases y <;> rfl
  have hn : l.length = 2 := by
    have : (l.length : Int) = 2 := by simpa using h1
    omega
  obtain ⟨a, b, rfl⟩ : ∃ a b, l = [a, b] := by
    match l, hn with
    | [a, b], _ => exact ⟨a, b, rfl⟩
  obtain ⟨ia, la⟩ := hs a (by simp)
  obtain ⟨ib, lb⟩ := hs b (by simp)
  refine ws_next (ws_ret (we_andV ?_))
  repeat (walk_at "w")
  refine v2_ixT (j := 0) rfl rfl ?_
  repeat (walk_at "w")
  refine ⟨⟨a, rfl, ia, la⟩, fun r hr' => ⟨_, hr' a rfl, fun ha => ?_, fun ha => ?_⟩⟩
  · refine we_andV ?_
    repeat (walk_at "w")
    refine v2_ixT (j := 1) rfl rfl ?_
    repeat (walk_at "w")
    refine ⟨⟨b, rfl, ib, lb⟩, fun r hr' => ⟨_, hr' b rfl, fun hb => ?_, fun hb => ?_⟩⟩
    · obtain ⟨x, rfl⟩ : ∃ x, a = .str x := by cases a <;> first | exact ⟨_, rfl⟩ | cases ha
      obtain ⟨y, rfl⟩ : ∃ y, b = .str y := by cases b <;> first | exact ⟨_, rfl⟩ | cases hb
      repeat (walk_at "w")
      refine v2_ixT (j := 0) rfl rfl ?_
      repeat (walk_at "w")
      refine v2_ixT (j := 1) rfl rfl ?_
      refine v2_neSS (no _ ?_)
      show (nameOk x && nameOk y && !decide (x = y)) = _
      rw [show nameOk x = true from ha, show nameOk y = true from hb]
      rfl
    · refine no _ ?_
      cases a with
      | str x =>
        cases b with
        | str y =>
          show (nameOk x && nameOk y && !decide (x = y)) = _
          rw [show nameOk y = false from hb, Bool.and_false, Bool.false_and]
        | _ => rfl
      | _ => rfl
  · refine no _ ?_
    cases a with
    | str x =>
      cases b with
      | str y =>
        show (nameOk x && nameOk y && !decide (x = y)) = _
        rw [show nameOk x = false from ha, Bool.false_and, Bool.false_and]
      | _ => rfl
    | _ => rfl

/-! ### in_sequence -/
def ordP (p : Lk) : Lk := if leS p.1 p.2 = true then p else (p.2, p.1)
abbrev sInSequence : Stmt := top 21
abbrev nInSequence : List Str := ["link", "one", "other"]
theorem scInSequence : FnScope nInSequence ["link"] (defScope sInSequence) := ⟨rfl, rfl, rfl, by decide +kernel, rfl, by decide +kernel, by decide +kernel⟩
theorem cl_in_sequence (F : Fd K mg "in_sequence" ["link"] sInSequence) : Cl P w K mg base 1 "in_sequence" ["link"] (SpD K C (fun ds => ∃ p, ds = [dP p]) fun ds r => ∀ p, ds = [dP p] → r = dP (ordP p)) := F.cl fun f fd F => by
  refine fnD F scInSequence (fun ds ⟨d, e⟩ => by rw [e]; rfl) fun cdv A outer s H E hr => ?_
  refine ⟨_, (pss_cons (ps_asg (pv 0) (pg_tup (by rfl) (pgs_cons (pg_name (i := 1) scInSequence.nd rfl (by first | exact Or.inl rfl | exact Or.inr rfl)) (pgs_cons (pg_name (i := 2) scInSequence.nd rfl (by first | exact Or.inl rfl | exact Or.inr rfl)) pgs_nil))))
    (pss_one (ps_ret (pe_ifExp (pt_cmpR op_le_str (pv 1) (pv 2) (nomark _)) (pe_tup (pa_cons (pv 1) (pa_cons (pv 2) pa_nil))) (pe_tup (pa_cons (pv 2) (pa_cons (pv 1) pa_nil))))))), fun pot old M H ds hp => ?_⟩
  obtain ⟨p, rfl⟩ := hp
  dsimp only [cxOf, Cx.nox, Cx.wish]
  show WS _ _ [.da (dP p), .no, .no] _
  repeat (walk_at "w")
  refine wg_tup2 (wg_name (wg_name ?_))
  show WS _ _ [.da (dP p), .da (.str p.1), .da (.str p.2)] _
  repeat (walk_at "w")
  refine v2_leS ⟨_, rfl, fun h => ?_, fun h => ?_⟩
  · repeat (walk_at "w")
    refine ⟨by show (2 : Nat) ≤ 1000; decide, fun q e => ?_⟩
    have e' := dP_inj.mp (List.singleton_inj.mp e)
    subst e'
    unfold ordP
    rw [if_pos (show leS p.1 p.2 = true from h)]
    rfl
  · repeat (walk_at "w")
    refine ⟨by show (2 : Nat) ≤ 1000; decide, fun q e => ?_⟩
    have e' := dP_inj.mp (List.singleton_inj.mp e)
    subst e'
    unfold ordP
    rw [if_neg (by unfold leS; rw [h]; exact Bool.false_ne_true)]
    rfl
end
end K11

/-! K11U: want_names, pairs_of, neighbours_by_node, joined_to. -/
namespace K11
open PySem PySem.Spec PyProof.Rows L2

theorem call_srtK {X : Cx} {K : PySem.W.Frag} (hK : X.K = K) (hc : X.calm = true) : CallR X (.builtin "sorted") (rSrt K) := hK ▸ call_srt hc
theorem call_tupleK {X : Cx} {K : PySem.W.Frag} (hK : X.K = K) : CallR X (.type "tuple") (rTuple K) := hK ▸ call_tuple2
theorem call_lenK {X : Cx} {K : PySem.W.Frag} (hK : X.K = K) : CallR X (.builtin "len") (rLen K) := hK ▸ call_len2
theorem call_listK {X : Cx} {K : PySem.W.Frag} (hK : X.K = K) : CallR X (.type "list") (rList K) := hK ▸ call_list2
section
variable {B : Bs} {Γ : Ctx} {R : D → Prop}
theorem vc_lenA {d : D} {l : List D} (hs : seqD d = some l) (q : R (.int l.length)) : VC B (rLen B.W.K) [d] R := by
  cases d with
  | lst x => cases hs; exact vc_lenL q
  | tup x => cases hs; exact vc_lenT q
  | _ => cases hs
theorem v2_inA {neg : Bool} {s : Str} {d : D} {l : List Str} (hs : seqD d = some (sS l)) (q : R (.bl (if neg then !decide (s ∈ l) else decide (s ∈ l)))) : V2 B (rIn B.W.K neg) (.str s) d R := by
  cases d with
  | lst x => cases hs; exact v2_inL q
  | tup x => cases hs; exact v2_inT q
  | _ => cases hs
def isNonD : D → Bool
  | .non => true
  | _ => false
theorem v2_notN {d : D} (q : R (.bl (!isNonD d))) : V2 B (fun x y H Q => y = .non ∧ Q (.bl (!decide (x = .non))) H) d .non R :=
  v2_same (fun M H v u r1 r2 Q k => by
    refine ⟨r2.non_inv, ?_⟩
    have e : decide (v = V.non) = isNonD d := by cases r1 <;> simp [isNonD]
    rw [e]
    exact k _ (.bl _)) q
theorem paired_imp {α β : Type} {p q : α → β → Prop} (h : ∀ a b, p a b → q a b) : ∀ {as : List α} {bs : List β}, Paired p as bs → Paired q as bs
  | _, _, .nil => .nil
  | _, _, .cons a r => .cons (h _ _ a) (paired_imp h r)
theorem wo_srtT {i : Nat} {l : List Lk} {R : List D → Prop} (h : Γ[i]? = some (.owT l)) (hl : l.length ≤ 1000) (q : R (dPs (srtP l))) : WO B (tCB rSrtT (tCons (tVar i) tNil)) Γ R := fun M σ H S Q k => by
  obtain ⟨a, e1, o, h1⟩ := S.ent i _ h
  refine ⟨_, join_some e1, a, l, rfl, h1, hl, fun ts p hts hp => ?_⟩
  refine k p ts _ _ (S.alloc hp) (S.new_ hp) hp upd_same (links_rep (paired_imp (fun x b ⟨t, e, ht⟩ => ⟨t, e, ?_⟩) hts)) q
  exact cut_alloc hp _ _ (cut_some.mpr ⟨fun z => S.tp t _ z ht, ht⟩)
theorem seq_like {d : D} {l : List D} (hs : (seqD d).isSome = true) : seqD (likeD d l) = some l := by
  cases d with
  | lst x => rfl
  | tup x => rfl
  | _ => cases hs
theorem seq_inst {d : D} {l : List D} (hs : seqD d = some l) : d.inst = true ∧ isSeqD d = true := by
  cases d with
  | lst x => exact ⟨rfl, rfl⟩
  | tup x => exact ⟨rfl, rfl⟩
  | _ => cases hs
end

local macro_rules | `(tactic| walk_at "w") => `(tactic| (first
  | (with_reducible refine ws_seq ?_)
  | (with_reducible refine ws_ret ?_)
  | (with_reducible refine ws_if ?_)
  | (with_reducible refine ws_asg ?_)
  | (with_reducible refine ws_break ?_)
  | (with_reducible refine we_var (by with_unfolding_all rfl) ?_)
  | (with_reducible refine we_int ?_)
  | (with_reducible refine we_str ?_)
  | (with_reducible refine we_bl ?_)
  | (with_reducible refine we_non ?_)
  | (with_reducible refine we_ty ?_)
  | (with_reducible refine wa_cons ?_)
  | (with_reducible refine wa_nil ?_)
  | (with_reducible refine we_cb ?_)
  | (with_reducible refine vc_lenL ?_)
  | (with_reducible refine vc_lenT ?_)
  | (with_reducible refine v2_B0 ?_)
  | (with_reducible refine we_call ?_)
  | (with_reducible refine we_op ?_)
  | (with_reducible refine we_tup ?_)
  | (with_reducible refine we_if ?_)
  | (with_reducible refine we_chain ?_)
  | (with_reducible refine wt_test ?_)
  | (with_reducible refine wt_B ?_)
  | (with_reducible refine wt_not ?_)
  | (with_reducible refine wt_or ?_)
  | (with_reducible refine wt_and ?_)))

section
variable {P : Program} {w : World} {K : PySem.W.Frag} {mg : Str → Option Value} {base : Heap} {C : Addr}
def preList : List D → Prop := fun ds => ∃ d, ds = [d] ∧ d.inst = true
def postList : List D → D → Prop := fun ds r => ∀ d, ds = [d] → r = .bl (isSeqD d)

abbrev sWantNames : Stmt := top 23
abbrev nWantNames : List Str := ["nodes", "position", "node"]
theorem scWantNames : FnScope nWantNames ["nodes"] (defScope sWantNames) := ⟨rfl, rfl, rfl, by decide +kernel, rfl, by decide +kernel, by decide +kernel⟩
def Names (l : List Str) : Prop := 1 ≤ l.length ∧ l.length ≤ 60 ∧ l.Nodup ∧ ∀ s ∈ l, nameOk s = true
theorem name_len {s : Str} (h : nameOk s = true) : s.length ≤ 8 := by
  unfold nameOk at h
  rw [Bool.and_eq_true, Bool.and_eq_true] at h
  exact of_decide_eq_true h.1.2
theorem name_pos {s : Str} (h : nameOk s = true) : 1 ≤ s.length := by
  unfold nameOk at h
  rw [Bool.and_eq_true, Bool.and_eq_true] at h
  exact of_decide_eq_true h.1.1
theorem get_sS {l : List Str} {i : Nat} {d : D} (h : (sS l)[i]? = some d) : ∃ s, d = .str s ∧ l[i]? = some s := by
  unfold sS at h
  rw [List.getElem?_map] at h
  obtain ⟨s, h1, h2⟩ := Option.map_eq_some_iff.mp h
  exact ⟨s, h2.symm, h1⟩
theorem get_dPs {l : List Lk} {i : Nat} {d : D} (h : (dPs l)[i]? = some d) : ∃ s, d = dP s ∧ l[i]? = some s := by
  unfold dPs at h
  rw [List.getElem?_map] at h
  obtain ⟨s, h1, h2⟩ := Option.map_eq_some_iff.mp h
  exact ⟨s, h2.symm, h1⟩
theorem enum_inv {l : List D} {i : Nat} {d : D} (h : (enumD l)[i]? = some d) : ∃ e, d = .tup [.int (i : Nat), e] ∧ l[i]? = some e := by
  have hi : i < l.length := by rw [← enum_len l]; exact (List.getElem?_eq_some_iff.mp h).1
  have e := enum_get (List.getElem?_eq_getElem hi)
  rw [e] at h
  exact ⟨_, (Option.some.inj h).symm, List.getElem?_eq_getElem hi⟩
theorem sS_take (l : List Str) (n : Nat) : (sS l).take n = sS (l.take n) := (List.map_take ..).symm
theorem nodup_take {α : Type} {l : List α} {i : Nat} {a : α} (nd : l.Nodup) (h : l[i]? = some a) : a ∉ l.take i := fun m => by
  obtain ⟨j, hj⟩ := List.mem_iff_getElem?.mp m
  rw [List.getElem?_take] at hj
  split at hj
  · rename_i hlt
    obtain ⟨hi, ei⟩ := List.getElem?_eq_some_iff.mp h
    obtain ⟨hj', ej⟩ := List.getElem?_eq_some_iff.mp hj
    have := (List.getElem_inj nd).mp (ei.trans ej.symm)
    omega
  · cases hj
def preNames : List D → Prop := fun ds => ∃ d l, ds = [d] ∧ seqD d = some (sS l) ∧ Names l
theorem cl_want_names (F : Fd K mg "want_names" ["nodes"] sWantNames) (M : Mb mg) (c_is_list : Cl P w K mg base 1 "is_list" ["value"] (SpD K C preList postList))
    (c_is_name : Cl P w K mg base 1 "is_name" ["value"] (SpD K C preName postName)) : Cl P w K mg base 2 "want_names" ["nodes"] (SpD K C preNames fun _ r => r = .non) := F.cl fun f fd F => by
  refine fnD F scWantNames (fun ds ⟨d, l, e, _⟩ => by rw [e]; rfl) fun cdv A outer s H E hr => ?_
  refine ⟨_, (pss_cons (ps_if (PW.pt (pw_or (pt_not (pt_val (pcl c_is_list (hr.mono (by decide)) (pa_cons (pv 0) pa_nil)))) (pw_or1 (pt_cmpR op_eq (pe_callB call_len2 (by rfl) M.len PySem.boot_len (pa_cons (pv 0) pa_nil)) pe_int (nomark _))))) (pss_one ps_never) pss_nil)
    (pss_one (ps_for PassesOwn.never rfl (pi_enumA (by rfl) M.enumerate (pa_cons (pv 0) pa_nil)) (pg_tup (by rfl) (pgs_cons (pg_name (i := 1) scWantNames.nd rfl (by first | exact Or.inl rfl | exact Or.inr rfl)) (pgs_cons (pg_name (i := 2) scWantNames.nd rfl (by first | exact Or.inl rfl | exact Or.inr rfl)) pgs_nil))) (pss_one (ps_if (PW.pt (pw_or (pt_not (pt_val (pcl c_is_name (hr.mono (by decide)) (pa_cons (pv 2) pa_nil)))) (pw_or1 (pt_cmpR op_in_seq (pv 2) (pe_slice sl_any (pv 0) po_none (po_some (pv 1))) (by rfl))))) (pss_one ps_never) pss_nil))))), fun pot old M H ds hp => ?_⟩
  obtain ⟨d, l, rfl, hs, n1, n2, nd, ok⟩ := hp
  dsimp only [cxOf, Cx.nox, Cx.wish]
  show WS _ _ [.da d, .no, .no] _
  repeat (walk_at "w")
  refine ⟨⟨d, rfl, (seq_inst hs).1⟩, fun r hr' => ⟨_, hr' d rfl, fun h => ?_, fun h => ?_⟩⟩
  · rw [(seq_inst hs).2] at h; cases h
  repeat (walk_at "w")
  refine vc_lenA hs ?_
  repeat (walk_at "w")
  refine v2_eqII ⟨_, rfl, fun h => ?_, fun h => ?_⟩
  · have := of_decide_eq_true h
    rw [show (sS l).length = l.length by simp [sS]] at this
    omega
  refine ws_next ?_
  refine ws_for (wi_enumA ?_)
  repeat (walk_at "w")
  refine ⟨d, _, rfl, hs, fun i Γ1 => ∃ e1 e2, Γ1 = [.da d, e1, e2], ⟨_, _, rfl⟩, ?_, ?_⟩
  · rintro i x Γ1 hx ⟨e1, e2, rfl⟩
    obtain ⟨y, rfl, hy⟩ := enum_inv hx
    obtain ⟨s, rfl, hs'⟩ := get_sS hy
    refine wg_tup2 (wg_name (wg_name ?_))
    show WS _ _ [.da d, .da (.int (i : Nat)), .da (.str s)] _
    have oks := ok s (List.mem_of_getElem? hs')
    repeat (walk_at "w")
    refine ⟨⟨_, rfl, rfl, fun s' e => by cases e; have := name_len oks; omega⟩, fun r hr' => ⟨_, hr' _ rfl, fun h => ?_, fun h => ?_⟩⟩
    · rw [show nameD (.str s) = true from oks] at h; cases h
    repeat (walk_at "w")
    refine we_slice (n := i) ?_
    repeat (walk_at "w")
    refine ⟨_, hs, ?_⟩
    repeat (walk_at "w")
    refine ⟨i, rfl, ?_⟩
    rw [sS_take]
    refine v2_inA (seq_like (by rw [hs]; rfl)) ⟨_, rfl, fun h => ?_, fun h => ?_⟩
    · have h' : s ∈ l.take i := by simpa using h
      exact absurd h' (nodup_take nd hs')
    · exact ws_next ⟨_, _, rfl⟩
  · rintro Γ1 ⟨e1, e2, rfl⟩
    exact rfl

/-! ### pairs_of -/
abbrev sPairsOf : Stmt := top 24
abbrev nPairsOf : List Str := ["links", "nodes", "found", "position", "link", "pair"]
theorem scPairsOf : FnScope nPairsOf ["links", "nodes"] (defScope sPairsOf) := ⟨rfl, rfl, rfl, by decide +kernel, rfl, by decide +kernel, by decide +kernel⟩
def keysD (l : List Str) : List (Str × D) := l.map fun s => (s, .bl true)
theorem keysD_look {l : List Str} {s : Str} : ((keysD l).lookup s).isSome = decide (s ∈ l) := by
  induction l with
  | nil => rfl
  | cons a l ih =>
    show (((a, D.bl true) :: keysD l).lookup s).isSome = _
    rw [List.lookup_cons]
    by_cases e : s = a
    · subst e; simp
    · rw [show (s == a) = false from by simpa using e]
      show ((keysD l).lookup s).isSome = _
      rw [ih]
      simp [e]
structure Links (l : List Str) (ls : List Lk) : Prop where
  len : ls.length ≤ 120
  nd : (ls.map ordP).Nodup
  ok : ∀ p ∈ ls, nameOk p.1 = true ∧ nameOk p.2 = true ∧ p.1 ≠ p.2 ∧ p.1 ∈ l ∧ p.2 ∈ l
def prePairs : List D → Prop := fun ds => ∃ d l ls, ds = [d, .dic (keysD l)] ∧ seqD d = some (dPs ls) ∧ Links l ls
def postPairs : List D → D → Prop := fun ds r => ∀ d e ls, ds = [d, e] → seqD d = some (dPs ls) → r = .lst (dPs (srtP (ls.map ordP)))
theorem linkD_dP {p : Lk} (h1 : nameOk p.1 = true) (h2 : nameOk p.2 = true) (h3 : p.1 ≠ p.2) : linkD (dP p) = true := by
  show (nameOk p.1 && nameOk p.2 && !decide (p.1 = p.2)) = true
  rw [h1, h2, decide_eq_false h3]
  rfl
theorem cl_pairs_of (F : Fd K mg "pairs_of" ["links", "nodes"] sPairsOf) (M : Mb mg) (c_is_list : Cl P w K mg base 1 "is_list" ["value"] (SpD K C preList postList))
    (c_is_link : Cl P w K mg base 2 "is_link" ["value"] (SpD K C preLink postLink)) (c_in_sequence : Cl P w K mg base 1 "in_sequence" ["link"] (SpD K C (fun ds => ∃ p, ds = [dP p]) fun ds r => ∀ p, ds = [dP p] → r = dP (ordP p))) :
    Cl P w K mg base 3 "pairs_of" ["links", "nodes"] (SpD K C prePairs postPairs) := F.cl fun f fd F => by
  refine fnD F scPairsOf (fun ds ⟨d, l, ls, e, _⟩ => by rw [e]; rfl) fun cdv A outer s H E hr => ?_
  have hu := hu_of hr
  refine ⟨_, (pss_cons (ps_if (pt_not (pt_val (pcl c_is_list (hr.mono (by decide)) (pa_cons (pv 0) pa_nil)))) (pss_one ps_never) pss_nil)
    (pss_cons (ps_set (i := 2) scPairsOf.nd rfl (by first | exact Or.inl rfl | exact Or.inr rfl) pe_dnewT)
    (pss_cons (ps_for PassesOwn.never rfl (pi_enumA (by rfl) M.enumerate (pa_cons (pv 0) pa_nil)) (pg_tup (by rfl) (pgs_cons (pg_name (i := 3) scPairsOf.nd rfl (by first | exact Or.inl rfl | exact Or.inr rfl)) (pgs_cons (pg_name (i := 4) scPairsOf.nd rfl (by first | exact Or.inl rfl | exact Or.inr rfl)) pgs_nil))) (pss_cons (ps_if (PW.pt (pw_or (pt_not (pt_val (pcl c_is_link (hr.mono (by decide)) (pa_cons (pv 4) pa_nil)))) (pw_or1 (PW.pt (pw_and (pt_cmpR op_notN (pv 1) pe_non (nomark _)) (pw_and1 (pt_not (PW.pt (pw_and (pt_cmp (pc_din hu (pe_ix ix_tup (pv 4) pe_int (fun _ _ => rfl)) (pv 1))) (pw_and1 (pt_cmp (pc_din hu (pe_ix ix_tup (pv 4) pe_int (fun _ _ => rfl)) (pv 1))))))))))))) (pss_one ps_never) pss_nil)
    (pss_cons (ps_set (i := 5) scPairsOf.nd rfl (by first | exact Or.inl rfl | exact Or.inr rfl) (pcl c_in_sequence (hr.mono (by decide)) (pa_cons (pv 4) pa_nil)))
    (pss_cons (ps_if (pt_cmp (pc_din hu (pv 5) (pv 2))) (pss_one ps_never) pss_nil)
    (pss_one (ps_dput hu (pv 2) (pv 5) pe_bl rfl))))))
    (pss_one (ps_ret (pe_callB (call_srtT rfl) (by rfl) M.sorted (by decide +kernel) (pa_cons (pv 2) pa_nil))))))), fun pot old M H ds hp => ?_⟩
  obtain ⟨d, l, ls, rfl, hs, L⟩ := hp
  dsimp only [cxOf, Cx.nox, Cx.wish]
  show WS _ _ [.da d, .da (.dic (keysD l)), .no, .no, .no, .no] _
  repeat (walk_at "w")
  refine ⟨⟨d, rfl, (seq_inst hs).1⟩, fun r hr' => ⟨_, hr' d rfl, fun h => ?_, fun h => ?_⟩⟩
  · rw [(seq_inst hs).2] at h; cases h
  refine ws_next ?_
  refine ws_seq (ws_ownT ?_)
  show WS _ _ [.da d, .da (.dic (keysD l)), .owT [], .no, .no, .no] _
  refine ws_seq (ws_for (wi_enumA ?_))
  repeat (walk_at "w")
  refine ⟨d, _, rfl, hs, fun i Γ1 => ∃ e3 e4 e5, Γ1 = [.da d, .da (.dic (keysD l)), .owT ((ls.take i).map ordP), e3, e4, e5], ⟨_, _, _, rfl⟩, ?_, ?_⟩
  · rintro i x Γ1 hx ⟨e3, e4, e5, rfl⟩
    obtain ⟨y, rfl, hy⟩ := enum_inv hx
    obtain ⟨p, rfl, hp⟩ := get_dPs hy
    obtain ⟨o1, o2, o3, o4, o5⟩ := L.ok p (List.mem_of_getElem? hp)
    have hi : i < ls.length := (List.getElem?_eq_some_iff.mp hp).1
    have k4 := L.len
    have nw : ordP p ∉ (ls.take i).map ordP := by
      rw [List.map_take]
      exact nodup_take L.nd (by rw [List.getElem?_map, hp]; rfl)
    refine wg_tup2 (wg_name (wg_name ?_))
    show WS _ _ [.da d, .da (.dic (keysD l)), .owT ((ls.take i).map ordP), .da (.int (i : Nat)), .da (dP p), e5] _
    repeat (walk_at "w")
    refine ⟨⟨_, rfl, rfl, fun l' e x hx => ?_⟩, fun r hr' => ⟨_, hr' _ rfl, fun h => ?_, fun h => ?_⟩⟩
    · cases e
      rcases List.mem_cons.mp hx with e | hx
      · subst e; exact ⟨rfl, fun s e => by cases e; have := name_len o1; omega⟩
      · rcases List.mem_singleton.mp hx with e
        subst e; exact ⟨rfl, fun s e => by cases e; have := name_len o2; omega⟩
    · rw [linkD_dP o1 o2 o3] at h; cases h
    repeat (walk_at "w")
    refine v2_notN ⟨_, rfl, fun _ => ?_, fun h => nomatch h⟩
    repeat (walk_at "w")
    refine we_din ?_
    repeat (walk_at "w")
    refine v2_ixT (j := 0) rfl rfl ⟨p.1, rfl, ?_⟩
    repeat (walk_at "w")
    refine ⟨_, rfl, _, rfl, fun h1 => ?_, fun h1 => ?_⟩
    · repeat (walk_at "w")
      refine we_din ?_
      repeat (walk_at "w")
      refine v2_ixT (j := 1) rfl rfl ⟨p.2, rfl, ?_⟩
      repeat (walk_at "w")
      refine ⟨_, rfl, _, rfl, fun h2 => ?_, fun h2 => ?_⟩
      · rw [keysD_look, decide_eq_true o5] at h2; cases h2
      · refine ws_next ?_
        repeat (walk_at "w")
        refine ⟨⟨p, rfl⟩, fun r hr' => ?_⟩
        have hr2 := hr' p rfl
        subst hr2
        refine wg_name ?_
        show WS _ _ [.da d, .da (.dic (keysD l)), .owT ((ls.take i).map ordP), .da (.int (i : Nat)), .da (dP p), .da (dP (ordP p))] _
        repeat (walk_at "w")
        refine we_dinT (i := 2) rfl ?_
        repeat (walk_at "w")
        refine ⟨_, rfl, _, rfl, fun h3 => absurd (of_decide_eq_true h3) nw, fun _ => ?_⟩
        refine ws_next ?_
        refine ws_dputT (i := 2) rfl ?_
        repeat (walk_at "w")
        refine ⟨rfl, ?_⟩
        repeat (walk_at "w")
        refine ⟨_, rfl, nw, by rw [List.length_map, List.length_take]; omega, .da (.int (i : Nat)), .da (dP p), .da (dP (ordP p)), ?_⟩
        rw [show (ls.take (i + 1)).map ordP = (ls.take i).map ordP ++ [ordP p] by rw [List.take_add_one, hp, List.map_append]; rfl]
        rfl
    · rw [keysD_look, decide_eq_true o4] at h1; cases h1
  · rintro Γ1 ⟨e3, e4, e5, rfl⟩
    have k4 := L.len
    rw [show (enumD (dPs ls)).length = ls.length by rw [enum_len]; simp [dPs], List.take_length]
    refine ws_ret (WO.we (wo_srtT (i := 2) rfl (by rw [List.length_map]; omega) ?_))
    intro d' e' ls' e hs'
    cases e
    rw [hs] at hs'
    have := dPs_inj.mp (Option.some.inj hs')
    subst this
    rfl

/-! ### neighbours_by_node -/
abbrev sNeighboursByNode : Stmt := top 25
abbrev nNeighboursByNode : List Str := ["nodes", "pairs", "near", "one", "other", "node"]
theorem scNeighboursByNode : FnScope nNeighboursByNode ["nodes", "pairs"] (defScope sNeighboursByNode) := ⟨rfl, rfl, rfl, by decide +kernel, rfl, by decide +kernel, by decide +kernel⟩
def raw (ls : List Lk) (n : Str) : List Str := ls.flatMap fun p => if p.1 = n then [p.2] else if p.2 = n then [p.1] else []
def nearOf (ns : List Str) (ls : List Lk) : List (Str × List Str) := ns.map fun n => (n, srtS (raw ls n))
def tabD (ns : List Str) (f : Str → D) : List (Str × D) := ns.map fun n => (n, f n)
theorem tab_look {ns : List Str} {f : Str → D} {a : Str} (h : a ∈ ns) : (tabD ns f).lookup a = some (f a) := by
  induction ns with
  | nil => cases h
  | cons b ns ih =>
    show ((b, f b) :: tabD ns f).lookup a = _
    rw [List.lookup_cons]
    by_cases e : a = b
    · subst e; simp
    · rw [show (a == b) = false from by simpa using e]
      exact ih ((List.mem_cons.mp h).resolve_left e)
theorem tab_put {ns : List Str} {f : Str → D} {a : Str} {d : D} (h : a ∈ ns) : putS (tabD ns f) a d = tabD ns fun n => if n = a then d else f n := by
  unfold putS tabD
  rw [if_pos, List.map_map]
  · refine List.map_congr_left fun n _ => ?_
    by_cases e : n = a <;> simp [e]
  · rw [List.any_map, List.any_eq_true]
    exact ⟨a, h, by simp⟩
theorem merge_nodup : ∀ {l acc : List (Str × D)}, (l.map (·.1)).Nodup → (∀ p ∈ l, p.1 ∉ acc.map (·.1)) → mergeS acc l = acc ++ l
  | [], acc, _, _ => (List.append_nil acc).symm
  | p :: l, acc, nd, dj => by
    rw [List.map_cons, List.nodup_cons] at nd
    show mergeS (putS acc p.1 p.2) l = _
    rw [putS_new (dj p List.mem_cons_self), merge_nodup nd.2 (fun q hq => ?_), List.append_assoc]
    · rfl
    · rw [List.map_append, List.mem_append]
      rintro (z | z)
      · exact dj q (List.mem_cons_of_mem _ hq) z
      · rw [List.map_singleton, List.mem_singleton] at z
        exact nd.1 (List.mem_map.mpr ⟨q, hq, z⟩)
theorem tab_merge {ns : List Str} {f : Str → D} (nd : ns.Nodup) : mergeS [] (tabD ns f) = tabD ns f := by
  rw [merge_nodup (by unfold tabD; rw [List.map_map, show ((fun x : Str × D => x.1) ∘ fun n => (n, f n)) = id from rfl, List.map_id]; exact nd) (fun _ _ z => by cases z)]
  rfl
theorem raw_snoc (ls : List Lk) (p : Lk) (hne : p.1 ≠ p.2) : (fun n => if n = p.2 then D.tup (sS (raw ls p.2) ++ [.str p.1]) else if n = p.1 then D.tup (sS (raw ls p.1) ++ [.str p.2]) else D.tup (sS (raw ls n))) = fun n => D.tup (sS (raw (ls ++ [p]) n)) := by
  funext n
  unfold raw
  rw [List.flatMap_append]
  simp only [List.flatMap_cons, List.flatMap_nil, List.append_nil]
  by_cases e2 : n = p.2
  · subst e2
    rw [if_pos rfl, if_neg hne, if_pos rfl]
    simp [sS]
  · by_cases e1 : n = p.1
    · subst e1
      rw [if_neg e2, if_pos rfl, if_pos rfl]
      simp [sS]
    · rw [if_neg e2, if_neg e1, if_neg (Ne.symm e1), if_neg (Ne.symm e2), List.append_nil]
theorem raw_len (ls : List Lk) (n : Str) : (raw ls n).length ≤ ls.length := by
  induction ls with
  | nil => exact Nat.le_refl _
  | cons p ls ih =>
    unfold raw at ih ⊢
    rw [List.flatMap_cons, List.length_append, List.length_cons]
    have : (if p.1 = n then [p.2] else if p.2 = n then [p.1] else []).length ≤ 1 := by
      split
      · simp
      · split <;> simp
    omega
structure Ends2 (ns : List Str) (ls : List Lk) : Prop where
  n1 : ns.length ≤ 60
  nd : ns.Nodup
  l1 : ls.length ≤ 120
  ok : ∀ p ∈ ls, p.1 ≠ p.2 ∧ p.1 ∈ ns ∧ p.2 ∈ ns
theorem ws_see {B : Bs} {Γ : Ctx} {Po : Po} {t : TS} {i : Nat} {e : Ent} {d : D} (hi : Γ[i]? = some e) (s : Seen e d) (k : WS B t (Γ.set i (.da d)) Po) : WS B t Γ Po := fun M σ H S E he => by
  obtain ⟨p, o, S', sm, _⟩ := S.see hi s
  exact k _ σ H S' E (he.later sm)
theorem cl_neighbours_by_node (F : Fd K mg "neighbours_by_node" ["nodes", "pairs"] sNeighboursByNode) (M : Mb mg) :
    Cl P w K mg base 1 "neighbours_by_node" ["nodes", "pairs"] (SpD K C (fun ds => ∃ ns ls, ds = [.tup (sS ns), .tup (dPs ls)] ∧ Ends2 ns ls) fun ds r => ∀ ns ls, ds = [.tup (sS ns), .tup (dPs ls)] → r = .dic (nearD (nearOf ns ls))) := F.cl fun f fd F => by
  refine fnD F scNeighboursByNode (fun ds ⟨_, _, e, _⟩ => by rw [e]; rfl) fun cdv A outer s H E hr => ?_
  have hu := hu_of hr
  refine ⟨_, (pss_cons (ps_set (i := 2) scNeighboursByNode.nd rfl (by first | exact Or.inl rfl | exact Or.inr rfl) (pe_callTy (call_dictP2 rfl) (by rfl) M.dict (by decide +kernel) (pa_cons (pe_lc (own := [("node", 5)]) (by rfl) scNeighboursByNode.nd (pi_tup (pv 0)) (blkOk_by (N := nNeighboursByNode) (sc := defScope sNeighboursByNode) (by decide +kernel)) (fun _ _ _ _ _ => (pg_name (i := 5) scNeighboursByNode.nd rfl (by first | exact Or.inl rfl | exact Or.inr rfl))) (fun _ _ _ _ _ => pts_nil) (fun _ _ _ _ _ => (pe_tup (pa_cons (pv 5) (pa_cons (pe_tup pa_nil) pa_nil))))) pa_nil)))
    (pss_cons (ps_for PassesOwn.never rfl (pi_tup (pv 1)) (pg_tup (by rfl) (pgs_cons (pg_name (i := 3) scNeighboursByNode.nd rfl (by first | exact Or.inl rfl | exact Or.inr rfl)) (pgs_cons (pg_name (i := 4) scNeighboursByNode.nd rfl (by first | exact Or.inl rfl | exact Or.inr rfl)) pgs_nil))) (pss_cons (ps_dput hu (pv 2) (pv 3) (pe_tup (StX.pa_star (pe_dget hu (pv 2) (pv 3) (fun _ _ => rfl)) (pa_cons (pv 4) pa_nil))) rfl)
    (pss_one (ps_dput hu (pv 2) (pv 4) (pe_tup (StX.pa_star (pe_dget hu (pv 2) (pv 4) (fun _ _ => rfl)) (pa_cons (pv 3) pa_nil))) rfl))))
    (pss_one (ps_ret (pe_dc (own := [("node", 5)]) (by rfl) scNeighboursByNode.nd (pi_tup (pv 0)) (blkOk_by (N := nNeighboursByNode) (sc := defScope sNeighboursByNode) (by decide +kernel)) (fun _ _ _ _ _ => (pg_name (i := 5) scNeighboursByNode.nd rfl (by first | exact Or.inl rfl | exact Or.inr rfl))) (fun _ _ _ _ _ => pts_nil) (fun _ _ _ _ _ => (pv 5)) (fun _ _ _ _ _ => (pe_callTy (T := "tuple") (r := rTuple K) (call_tupleK (K := K) rfl) (by rfl) M.tuple (by decide +kernel) (pa_cons (pe_callB (id := "sorted") (r := rSrt K) (call_srtK (K := K) rfl rfl) (by rfl) M.sorted (by decide +kernel) (pa_cons (pe_dget hu (pv 2) (pv 5) (fun _ _ => rfl)) pa_nil)) pa_nil)))))))), fun pot old M H ds hp => ?_⟩
  obtain ⟨ns, ls, rfl, W⟩ := hp
  dsimp only [cxOf, Cx.nox, Cx.wish]
  show WS _ _ [.da (.tup (sS ns)), .da (.tup (dPs ls)), .no, .no, .no, .no] _
  refine ws_seq (ws_ownK (wk_dictP (WO.we (wo_lc (go_name (by simp)) (wi_tup ?_)))))
  repeat (walk_at "w")
  refine ⟨_, rfl, by simp [sS]; have := W.n1; omega, fun i acc => acc = (ns.take i).map fun n => pairD (n, .tup []), rfl, ?_, ?_⟩
  · rintro i d acc hd rfl
    obtain ⟨s, rfl, hs⟩ := get_sS hd
    refine wg_name (wt_yes ⟨fun _ => ?_, fun h => nomatch h⟩)
    show WE _ _ [.da (.tup (sS ns)), .da (.tup (dPs ls)), .no, .no, .no, .da (.str s)] _
    repeat (walk_at "w")
    refine ⟨by show (0 : Nat) ≤ 1000; decide, ?_⟩
    repeat (walk_at "w")
    refine ⟨by show (2 : Nat) ≤ 1000; decide, ?_⟩
    show _ = List.map _ (List.take (i + 1) ns)
    rw [List.take_add_one, hs, List.map_append]
    rfl
  rintro acc rfl
  refine ⟨tabD ns fun _ => .tup [], ?_, ?_⟩
  · rw [show (sS ns).length = ns.length by simp [sS], List.take_length]
    unfold tabD
    rw [List.map_map]
    rfl
  rw [tab_merge W.nd]
  show WS _ _ [.da (.tup (sS ns)), .da (.tup (dPs ls)), .owK (tabD ns fun _ => .tup []), .no, .no, .no] _
  refine ws_seq (ws_for (wi_tup ?_))
  repeat (walk_at "w")
  refine ⟨_, rfl, fun i Γ1 => ∃ e3 e4, Γ1 = [.da (.tup (sS ns)), .da (.tup (dPs ls)), .owK (tabD ns fun n => .tup (sS (raw (ls.take i) n))), e3, e4, .no], ⟨_, _, rfl⟩, ?_, ?_⟩
  · rintro i d Γ1 hd ⟨e3, e4, rfl⟩
    obtain ⟨p, rfl, hp⟩ := get_dPs hd
    obtain ⟨o1, o2, o3⟩ := W.ok p (List.mem_of_getElem? hp)
    have lt : (tabD ns fun n => D.tup (sS (raw (ls.take i) n))).length ≤ 5000 := by unfold tabD; rw [List.length_map]; have := W.n1; omega
    have rl : ∀ n, (raw (ls.take i) n).length ≤ 120 := fun n => Nat.le_trans (raw_len _ _) (by rw [List.length_take]; have := W.l1; omega)
    refine wg_tup2 (wg_name (wg_name ?_))
    show WS _ _ [.da (.tup (sS ns)), .da (.tup (dPs ls)), .owK (tabD ns fun n => .tup (sS (raw (ls.take i) n))), .da (.str p.1), .da (.str p.2), .no] _
    refine ws_seq (ws_dputK (i := 2) rfl (seeE (i := 2) rfl (.owK _) ?_))
    show WE _ _ [.da (.tup (sS ns)), .da (.tup (dPs ls)), .da (.dic (tabD ns fun n => .tup (sS (raw (ls.take i) n)))), .da (.str p.1), .da (.str p.2), .no] _
    refine we_tup (wa_star (we_dget ?_))
    repeat (walk_at "w")
    refine ⟨_, rfl, ?_⟩
    repeat (walk_at "w")
    refine ⟨_, _, rfl, tab_look o2, _, rfl, ?_⟩
    repeat (walk_at "w")
    refine ⟨by have := rl p.1; simp [sS]; omega, ?_, ?_⟩
    · exact flat_sS (raw (ls.take i) p.1 ++ [p.2]) |> fun h => by simpa [sS, D.flat] using h
    repeat (walk_at "w")
    refine ⟨_, rfl, lt, ?_⟩
    rw [tab_put o2]
    show WS _ _ [.da (.tup (sS ns)), .da (.tup (dPs ls)), .owK (tabD ns _), .da (.str p.1), .da (.str p.2), .no] _
    refine ws_dputK (i := 2) rfl (seeE (i := 2) rfl (.owK _) ?_)
    show WE _ _ [.da (.tup (sS ns)), .da (.tup (dPs ls)), .da (.dic (tabD ns _)), .da (.str p.1), .da (.str p.2), .no] _
    refine we_tup (wa_star (we_dget ?_))
    repeat (walk_at "w")
    refine ⟨_, rfl, ?_⟩
    repeat (walk_at "w")
    refine ⟨_, _, rfl, tab_look o3, sS (raw (ls.take i) p.2), by rw [if_neg o1.symm]; rfl, ?_⟩
    repeat (walk_at "w")
    refine ⟨by have := rl p.2; simp [sS]; omega, ?_, ?_⟩
    · exact flat_sS (raw (ls.take i) p.2 ++ [p.1]) |> fun h => by simpa [sS, D.flat] using h
    repeat (walk_at "w")
    refine ⟨_, rfl, by unfold tabD; rw [List.length_map]; have := W.n1; omega, .da (.str p.1), .da (.str p.2), ?_⟩
    rw [tab_put o3, raw_snoc (ls.take i) p o1, List.take_add_one, hp]
    rfl
  · rintro Γ1 ⟨e3, e4, rfl⟩
    rw [show (dPs ls).length = ls.length by simp [dPs], List.take_length]
    refine ws_see (i := 2) rfl (.owK _) ?_
    show WS _ _ [.da (.tup (sS ns)), .da (.tup (dPs ls)), .da (.dic (tabD ns fun n => .tup (sS (raw ls n)))), e3, e4, .no] _
    refine ws_ret (WK.we (wk_dc (go_name (by simp)) (wi_tup ?_)))
    repeat (walk_at "w")
    refine ⟨_, rfl, by simp [sS]; have := W.n1; omega, fun i acc => acc = nearD (nearOf (ns.take i) ls), rfl, ?_, ?_⟩
    · rintro i d acc hd rfl
      obtain ⟨s, rfl, hs⟩ := get_sS hd
      refine wg_name (wt_yes ⟨fun _ => ?_, fun h => nomatch h⟩)
      show WE _ _ [.da (.tup (sS ns)), .da (.tup (dPs ls)), .da (.dic (tabD ns fun n => .tup (sS (raw ls n)))), e3, e4, .da (.str s)] _
      repeat (walk_at "w")
      refine ⟨s, rfl, ?_⟩
      refine we_cb (wa_cons (WO.we ?_))
      refine wo_cb (wa_cons (we_dget ?_))
      repeat (walk_at "w")
      refine ⟨_, rfl, ?_⟩
      repeat (walk_at "w")
      refine ⟨_, _, rfl, tab_look (List.mem_of_getElem? hs), ?_⟩
      repeat (walk_at "w")
      refine vco_srtT (by have := raw_len ls s; have := W.l1; omega) ?_
      repeat (walk_at "w")
      refine vc_tupleL ?_
      have nk : s ∉ (nearD (nearOf (ns.take i) ls)).map (·.1) := by
        have e : (nearD (nearOf (ns.take i) ls)).map (·.1) = ns.take i := by
          unfold nearD nearOf
          rw [List.map_map, List.map_map]
          exact List.map_id _
        rw [e]
        exact nodup_take W.nd hs
      rw [putS_new nk]
      show _ = nearD (nearOf (List.take (i + 1) ns) ls)
      rw [List.take_add_one, hs]
      unfold nearD nearOf
      rw [List.map_append, List.map_append]
      rfl
    · rintro acc rfl ns' ls' e
      have e1 := List.cons.inj e
      have e2 := sS_inj.mp (D.tup.inj e1.1)
      have e3 := dPs_inj.mp (D.tup.inj (List.cons.inj e1.2).1)
      subst e2 e3
      rw [show (sS ns).length = ns.length by simp [sS], List.take_length]
end
end K11

/-! K11V: joined_to. -/
namespace K11
open PySem PySem.Spec PyProof.Rows L2

/-! ### what can be reached -/
inductive Rch (nb : Str → List Str) (s : Str) : Str → Prop
  | refl : Rch nb s s
  | step {x y : Str} : Rch nb s x → y ∈ nb x → Rch nb s y
structure Jn (ks : List Str) (nb : Str → List Str) (s0 : Str) (f wq : List Str) (ex : Str → Prop) : Prop where
  nd : f.Nodup
  sub : ∀ x ∈ f, x ∈ ks
  rch : ∀ x ∈ f, Rch nb s0 x
  wf : ∀ x ∈ wq, x ∈ f
  cl : ∀ x ∈ f, x ∈ wq ∨ ex x ∨ ∀ y ∈ nb x, y ∈ f
  st : s0 ∈ f
theorem nodup_len {f ks : List Str} (nd : f.Nodup) (sub : ∀ x ∈ f, x ∈ ks) : f.length ≤ ks.length := by
  induction f generalizing ks with
  | nil => exact Nat.zero_le _
  | cons a f ih =>
    rw [List.nodup_cons] at nd
    have h := ih (ks := ks.erase a) nd.2 fun x hx => (List.mem_erase_of_ne (fun e => nd.1 (by rw [← e]; exact hx))).mpr (sub x (List.mem_cons_of_mem _ hx))
    have ha : a ∈ ks := sub a List.mem_cons_self
    rw [List.length_erase_of_mem ha] at h
    have : 0 < ks.length := List.length_pos_of_mem ha
    rw [List.length_cons]
    omega
theorem Jn.closed {ks : List Str} {nb : Str → List Str} {s0 : Str} {f : List Str} (J : Jn ks nb s0 f [] fun _ => False) : ∀ x, x ∈ f ↔ Rch nb s0 x := fun x => ⟨J.rch x, fun h => by
  induction h with
  | refl => exact J.st
  | step _ hy ih =>
    rcases J.cl _ ih with z | z | z
    · cases z
    · exact z.elim
    · exact z _ hy⟩
def nbOf (nr : List (Str × List Str)) (s : Str) : List Str := (nr.lookup s).getD []
theorem nearD_look {nr : List (Str × List Str)} {s : Str} {l : List Str} (h : nr.lookup s = some l) : (nearD nr).lookup s = some (.tup (sS l)) := by
  induction nr with
  | nil => cases h
  | cons p nr ih =>
    show ((p.1, D.tup (sS p.2)) :: nearD nr).lookup s = _
    obtain ⟨a, b⟩ := p
    rw [List.lookup_cons] at h ⊢
    by_cases e : s = a
    · subst e
      simp at h ⊢
      rw [h]
    · rw [show (s == a) = false from by simpa using e] at h ⊢
      exact ih h
theorem look_some {nr : List (Str × List Str)} {s : Str} (h : s ∈ nr.map (·.1)) : nr.lookup s = some (nbOf nr s) := by
  unfold nbOf
  cases z : nr.lookup s with
  | some l => rfl
  | none =>
    exfalso
    rw [List.lookup_eq_none_iff] at z
    obtain ⟨p, hp, e⟩ := List.mem_map.mp h
    have := z p hp
    rw [e] at this
    simp at this
structure Grf (nr : List (Str × List Str)) : Prop where
  len : nr.length ≤ 60
  ok : ∀ s ∈ nr.map (·.1), nameOk s = true
  cl : ∀ s ∈ nr.map (·.1), ∀ y ∈ nbOf nr s, y ∈ nr.map (·.1)
theorem name_strOk {s : Str} (h : nameOk s = true) : PyData.strOk s = true := by
  unfold nameOk at h
  rw [Bool.and_eq_true, List.all_eq_true] at h
  unfold PyData.strOk
  rw [Array.all_eq_true']
  intro c hc
  have z := of_decide_eq_true (h.2 c (Array.mem_toList_iff.mpr hc))
  have all : ∀ c ∈ letS.cps.toList, c < 0x110000 := by decide +kernel
  exact decide_eq_true (all c z)
section
variable {B : Bs} {Γ : Ctx} {R : D → Prop} {te td ty : TE}
theorem we_dnin (h : WE B ty Γ fun e => ∃ k, e = .str k ∧ WE B td Γ fun d => ∃ l, d = .dic l ∧ R (.bl (!(l.lookup k).isSome))) : WE B (tDNotIn ty td) Γ R := fun M σ H S Q q => h M σ H S _ fun u H1 e S1 x r2 ⟨k, he, h2⟩ => by
  subst he
  refine h2 M σ H1 S1 _ fun v H2 d S2 x2 r1 ⟨l, hd, hr⟩ => ?_
  subst hd
  cases r1 with
  | dic ha rk =>
    rename_i a kvs
    refine ⟨_, _, rfl, by rw [r2.str_inv]; exact dget_at (l := l) ha k, ?_⟩
    have e : (valV kvs (.inr k)).isSome = (l.lookup k).isSome := by
      rcases rk.val k with ⟨z1, z2⟩ | ⟨w, d, e1, e2, e3⟩
      · rw [z1, z2]; rfl
      · rw [e1, e2]; rfl
    rw [e]
    exact q _ H2 _ S2 (x.trans x2) (.bl _) hr
theorem keysD_inv {W : Wd} {H : Hp} : ∀ {l : List Str} {kvs : List (Key × V)}, RepK W H kvs (keysD l) → kvs.map (·.1) = l.map Sum.inr
  | [], _, h => by cases h; rfl
  | s :: l, _, h => by
    cases h with
    | cons r t => rw [List.map_cons, List.map_cons, keysD_inv (l := l) t]
theorem vco_srtD {l : List Str} {R : List D → Prop} (hl : l.length ≤ 1000) (q : R (sS (srtS l))) : VCO B (rSrt B.W.K) [.dic (keysD l)] R := fun M H v r _ _ _ Q k => by
  cases r with
  | cons r1 r2 => cases r2; cases r1 with
    | dic h1 rs => exact .inl ⟨_, l, rfl, .inr ⟨_, _, rfl, (cut_some.mp h1).2, keysD_inv rs⟩, hl, fun p hp => k p _ _ _ hp rfl (Reps.of_strs _) q⟩
end

local macro_rules | `(tactic| walk_at "w") => `(tactic| (first
  | (with_reducible refine ws_seq ?_)
  | (with_reducible refine ws_ret ?_)
  | (with_reducible refine ws_if ?_)
  | (with_reducible refine ws_asg ?_)
  | (with_reducible refine ws_break ?_)
  | (with_reducible refine we_var (by with_unfolding_all rfl) ?_)
  | (with_reducible refine we_int ?_)
  | (with_reducible refine we_str ?_)
  | (with_reducible refine we_bl ?_)
  | (with_reducible refine we_non ?_)
  | (with_reducible refine we_ty ?_)
  | (with_reducible refine wa_cons ?_)
  | (with_reducible refine wa_nil ?_)
  | (with_reducible refine we_cb ?_)
  | (with_reducible refine vc_lenL ?_)
  | (with_reducible refine vc_lenT ?_)
  | (with_reducible refine v2_B0 ?_)
  | (with_reducible refine we_call ?_)
  | (with_reducible refine we_op ?_)
  | (with_reducible refine we_tup ?_)
  | (with_reducible refine we_if ?_)
  | (with_reducible refine we_chain ?_)
  | (with_reducible refine wt_test ?_)
  | (with_reducible refine wt_B ?_)
  | (with_reducible refine wt_not ?_)
  | (with_reducible refine wt_or ?_)
  | (with_reducible refine wt_and ?_)))

section
variable {P : Program} {w : World} {K : PySem.W.Frag} {mg : Str → Option Value} {base : Heap} {C : Addr}
abbrev sJoinedTo : Stmt := top 26
abbrev nJoinedTo : List Str := ["near", "start", "found", "waiting", "here", "node"]
theorem scJoinedTo : FnScope nJoinedTo ["near", "start"] (defScope sJoinedTo) := ⟨rfl, rfl, rfl, by decide +kernel, rfl, by decide +kernel, by decide +kernel⟩
def preJoin : List D → Prop := fun ds => ∃ nr s, ds = [.dic (nearD nr), .str s] ∧ Grf nr ∧ s ∈ nr.map (·.1)
def postJoin : List D → List D → Prop := fun ds r => ∀ nr s, ds = [.dic (nearD nr), .str s] → ∃ f : List Str, r = sS (srtS f) ∧ f.Nodup ∧ ∀ x, x ∈ f ↔ Rch (nbOf nr) s x
theorem keysD_put {f : List Str} {s : Str} (h : s ∉ f) : putS (keysD f) s (.bl true) = keysD (f ++ [s]) := by
  rw [putS_new]
  · unfold keysD
    rw [List.map_append]
    rfl
  · unfold keysD
    rw [List.map_map]
    intro z
    obtain ⟨t, ht, e⟩ := List.mem_map.mp z
    exact h (e ▸ ht)
theorem nearD_inj : ∀ {a b : List (Str × List Str)}, nearD a = nearD b → a = b
  | [], [], _ => rfl
  | [], _ :: _, h => by cases h
  | _ :: _, [], h => by cases h
  | p :: a, q :: b, h => by
    have h1 := List.cons.inj h
    have h2 := Prod.mk.inj h1.1
    rw [nearD_inj (a := a) (b := b) h1.2, show p = q from Prod.ext h2.1 (sS_inj.mp (D.tup.inj h2.2))]
theorem cl_joined_to (F : Fd K mg "joined_to" ["near", "start"] sJoinedTo) (M : Mb mg) : Cl P w K mg base 1 "joined_to" ["near", "start"] (SpO K C preJoin postJoin) := F.cl fun f fd F => by
  refine fnO F scJoinedTo (fun ds ⟨_, _, e, _⟩ => by rw [e]; rfl) fun cdv A outer s H E hr => ?_
  have hu := hu_of hr
  refine ⟨_, (pss_cons (ps_set (i := 2) scJoinedTo.nd rfl (by first | exact Or.inl rfl | exact Or.inr rfl) (pe_disp (pps_cons (pv 1) pe_bl pps_nil) (by rfl) (by rfl) (fun z => by cases z) (by decide)))
    (pss_cons (ps_set (i := 3) scJoinedTo.nd rfl (by first | exact Or.inl rfl | exact Or.inr rfl) (pe_lst (pa_cons (pv 1) pa_nil)))
    (pss_cons (ps_while PassesOwn.never (pt_cmpR (op_neD hr.units) (pv 3) (pe_lst pa_nil) (nomark _)) (pss_cons (ps_set (i := 4) scJoinedTo.nd rfl (by first | exact Or.inl rfl | exact Or.inr rfl) (pe_bm0 PySem.F.plainAttrs_list PySem.F.slot_list_pop PySem.F.type_list_pop mt_pop (pv 3)))
    (pss_one (ps_for PassesOwn.never rfl (pi_tup (pe_dget hu (pv 0) (pv 4) (fun _ _ => rfl))) (pg_name (i := 5) scJoinedTo.nd rfl (by first | exact Or.inl rfl | exact Or.inr rfl)) (pss_one (ps_if (pt_cmp (pc_dnotin hu (pv 5) (pv 2))) (pss_cons (ps_dput hu (pv 2) (pv 5) pe_bl rfl)
    (pss_one (ps_expr (pe_bm PySem.F.plainAttrs_list PySem.F.slot_list_append PySem.F.type_list_append mt_append (pv 3) (pa_cons (pv 5) pa_nil))))) pss_nil))))))
    (pss_one (ps_ret (pe_callB (call_srt rfl) (by rfl) M.sorted (by decide +kernel) (pa_cons (pv 2) pa_nil))))))), fun pot old M H ds hp => ?_⟩
  obtain ⟨nr, s, rfl, W, hs⟩ := hp
  dsimp only [cxOf, Cx.nox, Cx.wish]
  show WS _ _ [.da (.dic (nearD nr)), .da (.str s), .no, .no, .no, .no] _
  refine ws_seq (ws_ownK (wk_disp (wp_cons ?_)))
  repeat (walk_at "w")
  refine ⟨s, rfl, ?_⟩
  repeat (walk_at "w")
  refine wp_nil ⟨by show (1 : Nat) ≤ 15; decide, ?_⟩
  show WS _ _ [.da (.dic (nearD nr)), .da (.str s), .owK (keysD [s]), .no, .no, .no] _
  refine ws_seq (ws_own (wo_lst ?_))
  repeat (walk_at "w")
  refine ⟨by show (1 : Nat) ≤ 1000; decide, ?_⟩
  show WS _ _ [.da (.dic (nearD nr)), .da (.str s), .owK (keysD [s]), .ow (sS [s]), .no, .no] _
  have N60 := W.len
  refine ws_seq (ws_while (fun m Γ1 => m ≤ 200 ∧ ∃ f wq e4 e5, Γ1 = [.da (.dic (nearD nr)), .da (.str s), .owK (keysD f), .ow (sS wq), e4, e5] ∧ Jn (nr.map (·.1)) (nbOf nr) s f wq (fun _ => False) ∧ m = 2 * (nr.length - f.length) + wq.length) (2 * (nr.length - 1) + 1) ⟨by omega, [s], [s], _, _, rfl, ?_, rfl⟩ ?_)
  · exact ⟨by simp, fun x hx => by rw [List.mem_singleton.mp hx]; exact hs, fun x hx => by rw [List.mem_singleton.mp hx]; exact .refl, fun x hx => hx, fun x hx => .inl hx, List.mem_singleton.mpr rfl⟩
  rintro m Γ1 ⟨hm, f, wq, e4, e5, rfl, J, rfl⟩
  have fl : f.length ≤ nr.length := by have := nodup_len J.nd J.sub; simpa using this
  refine seeT (i := 3) rfl (.ow _) ?_
  show WT _ _ [.da (.dic (nearD nr)), .da (.str s), .owK (keysD f), .da (.lst (sS wq)), e4, e5] _
  repeat (walk_at "w")
  refine WO.we (wo_lst (wa_nil ⟨by decide, ?_⟩))
  refine v2_neD ?_ rfl ?_ rfl fun b hb => ⟨_, rfl, fun h => ?_, fun h => ?_⟩
  · exact ok_sS (n := 9) fun x hx => name_strOk (W.ok x (J.sub x (J.wf x hx)))
  · exact nob_sS wq
  · have hne : wq ≠ [] := fun z => by
      subst z
      rw [hb.mpr rfl] at h
      cases h
    obtain ⟨here, eh⟩ : ∃ here, wq[wq.length - 1]? = some here := ⟨_, List.getElem?_eq_getElem (by have := List.length_pos_iff.mpr hne; omega)⟩
    have mh : here ∈ f := J.wf here (List.mem_of_getElem? eh)
    have kh := J.sub here mh
    have pl := List.length_pos_iff.mpr hne
    refine ws_seq (ws_pop (i := 3) (l := sS wq) (d := .str here) rfl (by unfold sS; rw [List.length_map, List.getElem?_map, eh]; rfl) (wg_name ?_))
    rw [show (sS wq).dropLast = sS wq.dropLast from (List.map_dropLast ..).symm]
    show WS _ _ [.da (.dic (nearD nr)), .da (.str s), .owK (keysD f), .ow (sS wq.dropLast), .da (.str here), e5] _
    have J0 : Jn (nr.map (·.1)) (nbOf nr) s f wq.dropLast (fun x => x = here) := ⟨J.nd, J.sub, J.rch, fun x hx => J.wf x (List.dropLast_subset _ hx), fun x hx => by
      rcases J.cl x hx with z | z | z
      · by_cases e : x = here
        · exact .inr (.inl e)
        · refine .inl ?_
          have ew : wq = wq.dropLast ++ [here] := by
            conv => lhs; rw [← List.dropLast_concat_getLast hne]
            rw [List.getLast_eq_getElem]
            congr 2
            exact (List.getElem?_eq_some_iff.mp eh).2
          rw [ew, List.mem_append, List.mem_singleton] at z
          exact z.resolve_right e
      · exact z.elim
      · exact .inr (.inr z), J.st⟩
    refine ws_for (wi_tup (we_dget ?_))
    repeat (walk_at "w")
    refine ⟨_, rfl, ?_⟩
    repeat (walk_at "w")
    refine ⟨here, _, rfl, nearD_look (look_some kh), sS (nbOf nr here), rfl, fun i Γ1 => ∃ f1 w1 e5, Γ1 = [.da (.dic (nearD nr)), .da (.str s), .owK (keysD f1), .ow (sS w1), .da (.str here), e5] ∧ Jn (nr.map (·.1)) (nbOf nr) s f1 w1 (fun x => x = here) ∧
      (∀ j y, j < i → (nbOf nr here)[j]? = some y → y ∈ f1) ∧ here ∈ f1 ∧ 2 * (nr.length - f1.length) + w1.length < 2 * (nr.length - f.length) + wq.length, ⟨f, wq.dropLast, _, rfl, J0, fun j y h => by omega, mh, by rw [List.length_dropLast]; omega⟩, ?_, ?_⟩
    · rintro i d Γ1 hd ⟨f1, w1, e5, rfl, J1, h1, h2, h3⟩
      obtain ⟨y, rfl, hy⟩ := get_sS hd
      have ky : y ∈ nr.map (·.1) := W.cl here kh y (List.mem_of_getElem? hy)
      have fl1 : f1.length ≤ nr.length := by have := nodup_len J1.nd J1.sub; simpa using this
      refine wg_name ?_
      show WS _ _ [.da (.dic (nearD nr)), .da (.str s), .owK (keysD f1), .ow (sS w1), .da (.str here), .da (.str y)] _
      refine ws_if (seeT (i := 2) rfl (.owK _) ?_)
      show WT _ _ [.da (.dic (nearD nr)), .da (.str s), .da (.dic (keysD f1)), .ow (sS w1), .da (.str here), .da (.str y)] _
      refine wt_B (we_dnin ?_)
      repeat (walk_at "w")
      refine ⟨y, rfl, ?_⟩
      repeat (walk_at "w")
      refine ⟨_, rfl, _, rfl, fun h => ?_, fun h => ?_⟩
      · rw [keysD_look] at h
        have hy1 : y ∉ f1 := by simpa using h
        have fl2 : f1.length < nr.length := by
          have := nodup_len (f := y :: f1) (ks := nr.map (·.1)) (List.nodup_cons.mpr ⟨hy1, J1.nd⟩) fun x hx => by
            rcases List.mem_cons.mp hx with e | hx
            · rw [e]; exact ky
            · exact J1.sub x hx
          rw [List.length_cons, List.length_map] at this
          omega
        refine ws_seq (ws_dputK (i := 2) rfl ?_)
        repeat (walk_at "w")
        refine ⟨y, rfl, by simp [keysD]; omega, ?_⟩
        rw [keysD_put hy1]
        show WS _ _ [.da (.dic (nearD nr)), .da (.str s), .owK (keysD (f1 ++ [y])), .ow (sS w1), .da (.str here), .da (.str y)] _
        refine ws_append (i := 3) rfl ?_
        repeat (walk_at "w")
        refine ⟨by simp [sS]; omega, f1 ++ [y], w1 ++ [y], .da (.str y), by rw [show sS w1 ++ [D.str y] = sS (w1 ++ [y]) by simp [sS]]; rfl, ⟨?_, ?_, ?_, ?_, ?_, ?_⟩, ?_, ?_, ?_⟩
        · exact List.nodup_append.mpr ⟨J1.nd, by simp, fun a ha b hb => by rw [List.mem_singleton.mp hb]; exact fun e => hy1 (e ▸ ha)⟩
        · intro x hx
          rcases List.mem_append.mp hx with hx | hx
          · exact J1.sub x hx
          · rw [List.mem_singleton.mp hx]; exact ky
        · intro x hx
          rcases List.mem_append.mp hx with hx | hx
          · exact J1.rch x hx
          · rw [List.mem_singleton.mp hx]; exact .step (J1.rch here h2) (List.mem_of_getElem? hy)
        · intro x hx
          rcases List.mem_append.mp hx with hx | hx
          · exact List.mem_append_left _ (J1.wf x hx)
          · exact List.mem_append_right _ hx
        · intro x hx
          rcases List.mem_append.mp hx with hx | hx
          · rcases J1.cl x hx with z | z | z
            · exact .inl (List.mem_append_left _ z)
            · exact .inr (.inl z)
            · exact .inr (.inr fun y hy => List.mem_append_left _ (z y hy))
          · exact .inl (List.mem_append_right _ hx)
        · exact List.mem_append_left _ J1.st
        · intro j z hj hz
          rcases Nat.lt_succ_iff_lt_or_eq.mp hj with hj | hj
          · exact List.mem_append_left _ (h1 j z hj hz)
          · subst hj
            rw [hy] at hz
            cases hz
            exact List.mem_append_right _ (List.mem_singleton.mpr rfl)
        · exact List.mem_append_left _ h2
        · rw [List.length_append, List.length_append, List.length_singleton]
          omega
      · rw [keysD_look] at h
        have hy1 : y ∈ f1 := by simpa using h
        refine ws_next ⟨f1, w1, _, rfl, J1, fun j z hj hz => ?_, h2, h3⟩
        rcases Nat.lt_succ_iff_lt_or_eq.mp hj with hj | hj
        · exact h1 j z hj hz
        · subst hj
          rw [hy] at hz
          cases hz
          exact hy1
    · rintro Γ1 ⟨f1, w1, e5, rfl, J1, h1, h2, h3⟩
      refine ⟨_, h3, by omega, f1, w1, _, _, rfl, ⟨J1.nd, J1.sub, J1.rch, J1.wf, fun x hx => ?_, J1.st⟩, rfl⟩
      rcases J1.cl x hx with z | z | z
      · exact .inl z
      · subst z
        refine .inr (.inr fun y hy => ?_)
        obtain ⟨j, hj⟩ := List.mem_iff_getElem?.mp hy
        exact h1 j y (by have := (List.getElem?_eq_some_iff.mp hj).1; simpa [sS] using this) hj
      · exact .inr (.inr z)
  · have e : wq = [] := by
      have hb' : b = true := by simpa using h
      exact sS_inj.mp (D.lst.inj (hb.mp hb'))
    subst e
    refine ws_see (i := 2) rfl (.owK _) ?_
    show WS _ _ [.da (.dic (nearD nr)), .da (.str s), .da (.dic (keysD f)), .ow (sS []), e4, e5] _
    refine ws_retO (wo_cb ?_)
    repeat (walk_at "w")
    refine vco_srtD (by omega) fun nr' s' e => ?_
    have e1 := List.cons.inj e
    have e2 := nearD_inj (D.dic.inj e1.1)
    have e3 := D.str.inj (List.cons.inj e1.2).1
    subst e2 e3
    exact ⟨f, rfl, J.nd, J.closed⟩
end
end K11

/-! K11W: __init__: the rule, fields of one's own instance; Net.__init__. -/
namespace K11
open PySem PySem.Spec PyProof.Rows L2 ClX

def startI (x : Addr) (N : List Str) (ds : List D) : Ctx := .ins x [] :: (ds.map Ent.da ++ List.replicate (N.length - (ds.length + 1)) Ent.no)
section
variable {K : PySem.W.Frag} {C pot : Addr} {old : Addr → Prop}
open Classical in
noncomputable def less (H : Hp) (x : Addr) : Hp := fun b => if b = x then none else H b
theorem less_some {H : Hp} {x b : Addr} {o : HO} : less H x b = some o ↔ b ≠ x ∧ H b = some o := by
  unfold less
  split <;> simp_all
theorem stt_startI {M : Addr → Prop} {H : Hp} {N : List Str} {x dx : Addr} {vs : List V} {ds : List D} (f : Fact pot M H) (hx : H x = some (.ins C dx [])) (nM : ¬ M x) (r : Reps ⟨K, C, pot, old⟩ (cut (addM M x) H) vs ds) (hl : ds.length + 1 ≤ N.length) :
    Stt ⟨⟨K, C, pot, old⟩, M, less H x⟩ (addM M x) H (L2.start N (.ref x :: vs)) (startI x N ds) := by
  have np : x ≠ pot := fun e => nM (e ▸ f.2.1)
  have hO : Own ⟨⟨K, C, pot, old⟩, M, less H x⟩ (addM M x) x := ⟨.inr rfl, np, by show less H x x = none; unfold less; rw [if_pos rfl], nM⟩
  have ent : ∀ (i : Nat) e, (startI x N ds)[i]? = some e → EntOk ⟨⟨K, C, pot, old⟩, M, less H x⟩ (addM M x) H ((L2.start N (.ref x :: vs))[i]?.join) e ∧ (e.own = true → i = 0) := fun i e h => by
    unfold startI at h
    cases i with
    | zero =>
      cases h
      refine ⟨⟨x, dx, [], ?_, hO, hx, rfl, .nil⟩, fun _ => rfl⟩
      unfold L2.start
      rfl
    | succ i =>
      rw [List.getElem?_cons_succ] at h
      by_cases hi : i < ds.length
      · rw [List.getElem?_append_left (by simpa using hi), List.getElem?_map] at h
        cases z : ds[i]? with
        | none => rw [z] at h; cases h
        | some d =>
          rw [z] at h
          cases h
          obtain ⟨y, hy, ry⟩ := r.getD z
          refine ⟨⟨y, ?_, ry⟩, fun z => nomatch z⟩
          unfold L2.start
          rw [List.getElem?_append_left (by rw [List.length_map, List.length_cons, r.length]; omega), List.getElem?_map, List.getElem?_cons_succ, hy]
          rfl
      · rw [List.getElem?_append_right (by simpa using hi), List.getElem?_replicate] at h
        split at h
        · cases h; exact ⟨trivial, fun z => nomatch z⟩
        · cases h
  refine ⟨f.1, .inl f.2.1, fun b o n h => (less_some.mp h).2, fun m h => .inl h, fun m h => h.elim .inl fun e => .inr (by rw [e]; exact hO.h0), fun m h => h.elim (f.2.2.1 m) fun e => (by rw [e, hx]; exact fun z => by cases z), fun m xs h => h.elim (f.2.2.2 m xs) fun e => (by rw [e, hx]; exact fun z => by cases z), ?_, fun i e h => (ent i e h).1, fun i j e g p h1 h2 h3 h4 _ _ => ((ent i e h1).2 h3).trans ((ent j g h2).2 h4).symm⟩
  unfold L2.start startI
  simp [r.length]
variable {P : Program} {w : World} {mg : Str → Option Value} {base : Heap}
def netI (ns : List Str) (ls : List Lk) (nr : List (Str × List Str)) : List (Str × D) := [("own_nodes", .tup (sS ns)), ("own_links", .tup (dPs ls)), ("own_near", .dic (nearD nr))]
theorem fnI {x qual : Str} {st : Stmt} {f : Addr} {fd : FuncData} {N ps : List Str} {k : Nat} {Pre : List D → Prop} {Post : List D → D → Prop} (F : FunX K x qual st f fd) (S : FnScope N ps (defScope st)) (len : ∀ ds, Pre ds → ds.length + 1 = ps.length)
    (hbody : ∀ (cdv : Value) (A : Around) (outer : List Env) (s : Shared) (H : Hp) (E : XK), Room k (A.deeper (envOfC qual (defScope st) s.heap.objs.size f cdv)) →
      ∃ t, PSs (cxOf CX0 P w K mg base N qual (defScope st) f cdv A outer s H E).nox (defBody st) t ∧ ∀ pot old M H a ds, Pre ds → WS ⟨⟨K, C, pot, old⟩, M, H⟩ t (startI a N ds) { nx := fun Γ => ∃ ns ls nr, Γ[0]? = some (.ins a (netI ns ls nr)) ∧ Post ds (.net ns ls nr) }) : FnOk P w K mg base CX0 (k + 1) f fd ps (SpI K C Pre Post) := by
  have pl : ps.length ≤ N.length := by have := congrArg List.length S.pre; rw [List.length_take] at this; omega
  refine F.ok S (fun vs H Q E ⟨pot, old, M, ds, x, dx, vs', e, _, _, _, r, hp, _⟩ => by rw [e, List.length_cons, r.length]; exact len ds hp) fun cdv A outer s H vs Q E hr ⟨pot, old, M, ds, x, dx, vs', e, hx, nM, fc, r, hp, q⟩ => ?_
  subst e
  obtain ⟨t, ht, hw⟩ := hbody cdv A outer s H E hr
  refine ⟨t, ht, hw pot old M (less H x) x ds hp _ _ H (stt_startI fc hx nM r (by rw [len ds hp]; exact pl)) _ ⟨fun M1 σ1 H1 Γ1 S1 _ ⟨ns, ls, nr, h0, h⟩ => ?_, fun _ _ _ _ _ _ _ _ h => h.elim, fun _ _ _ _ _ _ _ _ _ _ _ h => h.elim, fun _ _ _ _ _ _ h => h.elim, fun _ _ _ _ _ _ h => h.elim⟩⟩
  obtain ⟨p, dx', xs, e1, o, h1, ⟨ep, rf⟩⟩ := S1.ent 0 _ h0
  subst ep
  have sm : Same (cut M1 H1) (cut M H1) := cut_sub S1.sub
  refine q H1 _ S1.pt (fun b u n ne z => S1.kp b u (fun e => n (e ▸ fc.2.1)) (less_some.mpr ⟨ne, z⟩)) (fun m hm n => ?_) ?_ h
  · cases z : H m with
    | none => exact absurd z (fc.2.2.1 m hm)
    | some u => exact S1.kp m u n (less_some.mpr ⟨fun e => nM (e ▸ hm), z⟩)
  · unfold netI at rf
    cases rf with
    | cons r1 rf => cases rf with
      | cons r2 rf => cases rf with
        | cons r3 rf =>
          cases rf
          have r1' := r1.mono sm
          have r2' := r2.mono sm
          have r3' := r3.mono sm
          cases r1 with
          | tup _ _ => cases r2 with
            | tup _ _ => cases r3 with
              | dic _ _ =>
                rw [← netFs_eq] at h1
                exact .net (cut_some.mpr ⟨nM, h1⟩) r1' r2' r3'
end

/-! ## fields -/
def putFD (f : Str) (d : D) : List (Str × D) → List (Str × D)
  | [] => [(f, d)]
  | (g, x) :: r => if g = f then (g, d) :: r else (g, x) :: putFD f d r
theorem RepF.put {W : Wd} {H : Hp} {v : V} {d : D} (rv : Rep W H v d) (f : Str) : ∀ {xs : List (Str × V)} {l : List (Str × D)}, RepF W H xs l → RepF W H (putF f v xs) (putFD f d l)
  | _, _, .nil => .cons rv .nil
  | _, _, .cons (k := g) r t => by
    unfold putF putFD
    by_cases e : g = f
    · rw [if_pos e, if_pos e]; exact .cons rv t
    · rw [if_neg e, if_neg e]; exact .cons r (RepF.put rv f t)
theorem RepF.look {W : Wd} {H : Hp} (f : Str) : ∀ {xs : List (Str × V)} {l : List (Str × D)} {d : D}, RepF W H xs l → l.lookup f = some d → ∃ v, xs.lookup f = some v ∧ Rep W H v d
  | _, _, _, .nil, h => by cases h
  | _, _, _, .cons (k := g) r t, h => by
    rw [List.lookup_cons] at h ⊢
    by_cases e : (f == g) = true
    · rw [e] at h ⊢
      cases h
      exact ⟨_, rfl, r⟩
    · rw [Bool.not_eq_true] at e
      rw [e] at h ⊢
      exact RepF.look f t h
theorem RepF.length {W : Wd} {H : Hp} : ∀ {xs : List (Str × V)} {l : List (Str × D)}, RepF W H xs l → xs.length = l.length
  | _, _, .nil => rfl
  | _, _, .cons _ r => congrArg (· + 1) r.length
section
variable {B : Bs} {Γ : Ctx} {R : D → Prop} {ta tv te : TE} {P : Po}
theorem ws_setI {i : Nat} {a : Addr} {fs : List (Str × D)} {f : Str} (h : Γ[i]? = some (.ins a fs)) (hC : Cls B.W.K B.W.C) (hn : NoAttr B.W.K B.W.C f) (k : WE B tv Γ fun d => fs.length ≤ 100 ∧ P.nx (Γ.set i (.ins a (putFD f d fs)))) : WS B (sFld B.W.K (tVar i) tv f) Γ P := fun M σ H S E e => by
  refine k M σ H S _ fun v H1 d S1 x rd ⟨hl, q⟩ => ?_
  obtain ⟨p, dx, xs, e1, o, h1, ⟨ep, r⟩⟩ := S1.ent i _ h
  obtain ⟨S2, s2⟩ := S1.mut (o := .ins B.W.C dx (putF f v xs)) (e' := .ins a (putFD f d fs)) h rfl (join_some e1) o ⟨p, dx, _, rfl, o, upd_same, ep, (r.put rd f).mono (cut_upd o.m)⟩
  exact ⟨_, join_some e1, p, B.W.C, dx, xs, rfl, h1, hC, hn, by rw [r.length]; omega, e.nx M σ _ _ S2 (x.cut.trans s2) q⟩
theorem we_fldI {i : Nat} {a : Addr} {fs : List (Str × D)} {f : Str} {d : D} (h : Γ[i]? = some (.ins a fs)) (hC : Cls B.W.K B.W.C) (hn : NoAttr B.W.K B.W.C f) (hf : fs.lookup f = some d) (q : R d) : WE B (tFld B.W.K (tVar i) f) Γ R := fun M σ H S Q k => by
  obtain ⟨p, dx, xs, e1, o, h1, ⟨ep, r⟩⟩ := S.ent i _ h
  obtain ⟨v, hv, rv⟩ := r.look f hf
  exact ⟨_, join_some e1, p, B.W.C, dx, xs, v, rfl, h1, hC, hn, hv, k v H d S Fx.refl rv q⟩
theorem we_cval {mc u : Value} {f : Str} {v : V} {d : D} (cr : CRead B.W.K B.W.C mc) (cv : CVal B.W.K B.W.C mc f v u) (rv : ∀ H, Rep B.W H v d) (q : R d) : WE B (tCVal B.W.K (tC (.ref B.W.C)) f) Γ R := fun M σ H S Q k =>
  ⟨B.W.C, mc, v, u, rfl, cr, cv, k v H d S Fx.refl (rv _) q⟩
theorem ws_dropE (h : WE B te Γ fun _ => P.nx Γ) : WS B (tDrop te) Γ P := ws_drop h

/-! ## a list or a tuple, walked -/
def iLT (K : PySem.W.Frag) (tl : TE) : TI := fun σ H R => tl σ H fun x H1 => ∃ a, x = .ref a ∧ (((∃ xs, SqL K H1 a xs) ∧ R (Itl K a) H1) ∨ ((∃ xs, SqT K H1 a xs) ∧ R (Itt K a) H1))
theorem pi_lt {X : Cx} {tg l : Expr} {tl : TE} (hl : PE X l tl) : PI X tg l (iLT X.K tl) := by
  refine ⟨fun pins s σ H R I h => ?_⟩
  refine thn (hl.run pins s σ H _ I h) fun v s1 ⟨x, H1, I1, r1, q1⟩ => ?_
  obtain ⟨a, e, q⟩ := q1
  subst e
  cases r1
  rcases q with ⟨⟨xs, hq⟩, q⟩ | ⟨⟨xs, hq⟩, q⟩
  · obtain ⟨its, rv, p, hz⟩ := I1.list hq
    refine wpAny_pyIter_list p.isList ?_
    refine ⟨s1.heap.objs.size, [s1.heap.objs.size], _, _, H1, rfl, I1.kept (t' := s1.toks) fun b o e => Heap.get?_push_of_some _ e, turn_list a _, ⟨_, Heap.get?_push_size _ rfl, rfl, rfl⟩, fun b hb => ?_, q⟩
    have e : b = s1.heap.objs.size := by simpa using hb
    subst e
    exact I1.fpOk (Nat.le_refl _) (I1.hok.fresh (Nat.le_refl _))
  · obtain ⟨its, rv, p, hz⟩ := I1.tuple hq
    refine wpAny_pyIter_tuple (show s1.heap.IsTuple a its.toArray from p) ?_
    refine ⟨s1.heap.objs.size, [s1.heap.objs.size], _, _, H1, rfl, I1.kept (t' := s1.toks) fun b o e => Heap.get?_push_of_some _ e, turn_tuple a _, ⟨_, Heap.get?_push_size _ rfl, rfl, rfl⟩, fun b hb => ?_, q⟩
    have e : b = s1.heap.objs.size := by simpa using hb
    subst e
    exact I1.fpOk (Nat.le_refl _) (I1.hok.fresh (Nat.le_refl _))
theorem wi_lt {tl : TE} {L : List D → Prop} (h : WE B tl Γ fun d => ∃ ds, seqD d = some ds ∧ L ds) : WI B (iLT B.W.K tl) Γ L := fun M σ H S Q q => h M σ H S _ fun v H1 d S1 e r ⟨ds, hd, hl⟩ => by
  cases r with
  | lst h1 rs => cases hd; exact ⟨_, rfl, .inl ⟨⟨_, .of (cut_some.mp h1).2⟩, q _ H1 _ _ _ S1 e hl (src_list h1 rs)⟩⟩
  | tup h1 rs => cases hd; exact ⟨_, rfl, .inr ⟨⟨_, same_t cut_same h1.sq⟩, q _ H1 _ _ _ S1 e hl (src_tup h1.sq rs)⟩⟩
  | _ => cases hd
theorem vco_srtA {d : D} {l : List Str} {R : List D → Prop} (hs : seqD d = some (sS l)) (hl : l.length ≤ 1000) (q : R (sS (srtS l))) : VCO B (rSrt B.W.K) [d] R := by
  cases d with
  | lst x => cases hs; exact vco_srtS hl q
  | tup x => cases hs; exact vco_srtT hl q
  | _ => cases hs
end

local macro_rules | `(tactic| walk_at "w") => `(tactic| (first
  | (with_reducible refine ws_seq ?_)
  | (with_reducible refine ws_ret ?_)
  | (with_reducible refine ws_if ?_)
  | (with_reducible refine ws_asg ?_)
  | (with_reducible refine ws_break ?_)
  | (with_reducible refine ws_drop ?_)
  | (with_reducible refine we_var (by with_unfolding_all rfl) ?_)
  | (with_reducible refine we_int ?_)
  | (with_reducible refine we_str ?_)
  | (with_reducible refine we_bl ?_)
  | (with_reducible refine we_non ?_)
  | (with_reducible refine we_ty ?_)
  | (with_reducible refine wa_cons ?_)
  | (with_reducible refine wa_nil ?_)
  | (with_reducible refine we_cb ?_)
  | (with_reducible refine vc_lenL ?_)
  | (with_reducible refine vc_lenT ?_)
  | (with_reducible refine v2_B0 ?_)
  | (with_reducible refine we_call ?_)
  | (with_reducible refine we_op ?_)
  | (with_reducible refine we_tup ?_)
  | (with_reducible refine we_if ?_)
  | (with_reducible refine we_chain ?_)
  | (with_reducible refine wt_test ?_)
  | (with_reducible refine wt_B ?_)
  | (with_reducible refine wt_not ?_)
  | (with_reducible refine wt_or ?_)
  | (with_reducible refine wt_and ?_)))

/-! ## Net.__init__ -/
structure NetV (K : PySem.W.Frag) (C : Addr) : Prop where
  ex : ∃ mc u1 u2, CRead K C mc ∧ CVal K C mc "MOST_NODES" (.int 60) u1 ∧ CVal K C mc "MOST_LINKS" (.int 120) u2
def preInit : List D → Prop := fun ds => ∃ d e l ls, ds = [d, e] ∧ seqD d = some (sS l) ∧ seqD e = some (dPs ls) ∧ Names l ∧ Links l ls
def postInit : List D → D → Prop := fun ds r => ∀ d e l ls, ds = [d, e] → seqD d = some (sS l) → seqD e = some (dPs ls) → r = .net (srtS l) (srtP (ls.map ordP)) (nearOf (srtS l) (srtP (ls.map ordP)))
theorem ordP_ends (p : Lk) : (ordP p = p ∨ ordP p = (p.2, p.1)) := by
  unfold ordP
  split
  · exact .inl rfl
  · exact .inr rfl
theorem ends2_of {l : List Str} {ls : List Lk} (N : Names l) (L : Links l ls) : Ends2 (srtS l) (srtP (ls.map ordP)) := by
  refine ⟨by rw [srtS_len]; exact N.2.1, (srtS_perm l).nodup_iff.mpr N.2.2.1, by rw [srtP_len, List.length_map]; exact L.len, fun p hp => ?_⟩
  obtain ⟨q, hq, e⟩ := List.mem_map.mp ((srtP_perm _).mem_iff.mp hp)
  obtain ⟨_, _, o3, o4, o5⟩ := L.ok q hq
  subst e
  rcases ordP_ends q with z | z
  · rw [z]; exact ⟨o3, (srtS_perm l).mem_iff.mpr o4, (srtS_perm l).mem_iff.mpr o5⟩
  · rw [z]; exact ⟨o3.symm, (srtS_perm l).mem_iff.mpr o5, (srtS_perm l).mem_iff.mpr o4⟩
section
variable {P : Program} {w : World} {K : PySem.W.Frag} {mg : Str → Option Value} {base : Heap} {C : Addr}
abbrev sInitM : Stmt := inClass (top 27) 2
abbrev nInitM : List Str := ["self", "nodes", "links", "pairs", "node"]
theorem scInitM : FnScope nInitM ["self", "nodes", "links"] (defScope sInitM) := ⟨rfl, rfl, rfl, by decide +kernel, rfl, by decide +kernel, by decide +kernel⟩
theorem ok_init {f : Addr} {fd : FuncData} (F : FunX K "__init__" "Net.__init__" sInitM f fd) (M : Mb mg) (G : Gt mg C) (T : NetC K C) (V : NetV K C)
    (c_want_names : Cl P w K mg base 2 "want_names" ["nodes"] (SpD K C preNames fun _ r => r = .non)) (c_pairs_of : Cl P w K mg base 3 "pairs_of" ["links", "nodes"] (SpD K C prePairs postPairs))
    (c_neighbours_by_node : Cl P w K mg base 1 "neighbours_by_node" ["nodes", "pairs"] (SpD K C (fun ds => ∃ ns ls, ds = [.tup (sS ns), .tup (dPs ls)] ∧ Ends2 ns ls) fun ds r => ∀ ns ls, ds = [.tup (sS ns), .tup (dPs ls)] → r = .dic (nearD (nearOf ns ls)))) :
    FnOk P w K mg base CX0 4 f fd ["self", "nodes", "links"] (SpI K C preInit postInit) := by
  obtain ⟨mc, u1, u2, cr, cv1, cv2⟩ := V.ex
  refine fnI F scInitM (fun ds ⟨_, _, _, _, e, _⟩ => by rw [e]; rfl) fun cdv A outer s H E hr => ?_
  have hu := hu_of hr
  refine ⟨_, (pss_cons (ps_expr (pcl c_want_names (hr.mono (by decide)) (pa_cons (pv 1) pa_nil)))
    (pss_cons (ps_set (i := 3) scInitM.nd rfl (by first | exact Or.inl rfl | exact Or.inr rfl) (pcl c_pairs_of (hr.mono (by decide)) (pa_cons (pv 2) (pa_cons (pe_dc (own := [("node", 4)]) (by rfl) scInitM.nd (pi_lt (pv 1)) (blkOk_by (N := nInitM) (sc := defScope sInitM) (by decide +kernel)) (fun _ _ _ _ _ => (pg_name (i := 4) scInitM.nd rfl (by first | exact Or.inl rfl | exact Or.inr rfl))) (fun _ _ _ _ _ => pts_nil) (fun _ _ _ _ _ => (pv 4)) (fun _ _ _ _ _ => pe_bl)) pa_nil))))
    (pss_cons (ps_if (pt_cmpR op_gt (pe_callB call_len2 (by rfl) M.len PySem.boot_len (pa_cons (pv 1) pa_nil)) (pe_cval (pe_glob (v := .ref C) (by rfl) G.net rfl)) (nomark _)) (pss_one ps_never) pss_nil)
    (pss_cons (ps_if (pt_cmpR op_gt (pe_callB call_len2 (by rfl) M.len PySem.boot_len (pa_cons (pv 3) pa_nil)) (pe_cval (pe_glob (v := .ref C) (by rfl) G.net rfl)) (nomark _)) (pss_one ps_never) pss_nil)
    (pss_cons (ps_fld (pv 0) (pe_callTy call_tuple2 (by rfl) M.tuple (by decide +kernel) (pa_cons (pe_callB (call_srt rfl) (by rfl) M.sorted (by decide +kernel) (pa_cons (pv 1) pa_nil)) pa_nil)) rfl)
    (pss_cons (ps_fld (pv 0) (pe_callTy call_tuple2 (by rfl) M.tuple (by decide +kernel) (pa_cons (pv 3) pa_nil)) rfl)
    (pss_one (ps_fld (pv 0) (pcl c_neighbours_by_node (hr.mono (by decide)) (pa_cons (pe_fld (pv 0) rfl) (pa_cons (pe_fld (pv 0) rfl) pa_nil))) rfl)))))))), fun pot old M H a ds hp => ?_⟩
  obtain ⟨d, e, l, ls, rfl, hd, he, N, L⟩ := hp
  dsimp only [cxOf, Cx.nox, Cx.wish]
  show WS _ _ [.ins a [], .da d, .da e, .no, .no] _
  have n60 := N.2.1
  have l120 := L.len
  repeat (walk_at "w")
  refine ⟨⟨d, l, rfl, hd, N⟩, fun r _ => ?_⟩
  repeat (walk_at "w")
  refine WK.we (wk_dc (go_name (by simp)) (wi_lt ?_))
  repeat (walk_at "w")
  refine ⟨_, hd, by simp [sS]; omega, fun i acc => acc = keysD (l.take i), rfl, ?_, ?_⟩
  · rintro i x acc hx rfl
    obtain ⟨s, rfl, hs⟩ := get_sS hx
    refine wg_name (wt_yes ⟨fun _ => ?_, fun h => nomatch h⟩)
    show WE _ _ [.ins a [], .da d, .da e, .no, .da (.str s)] _
    repeat (walk_at "w")
    refine ⟨s, rfl, ?_⟩
    repeat (walk_at "w")
    rw [keysD_put (nodup_take N.2.2.1 hs)]
    show _ = keysD (l.take (i + 1))
    rw [List.take_add_one, hs]
    rfl
  rintro acc rfl
  rw [show (sS l).length = l.length by simp [sS], List.take_length]
  repeat (walk_at "w")
  refine ⟨⟨e, l, ls, rfl, he, L⟩, fun r hr' => ?_⟩
  have hr2 := hr' _ _ ls rfl he
  subst hr2
  refine wg_name ?_
  show WS _ _ [.ins a [], .da d, .da e, .da (.lst (dPs (srtP (ls.map ordP)))), .no] _
  repeat (walk_at "w")
  refine vc_lenA hd ?_
  refine we_cval cr cv1 (fun _ => .int _) ?_
  repeat (walk_at "w")
  refine ⟨_, rfl, fun h => ?_, fun _ => ws_next ?_⟩
  · exfalso
    have := of_decide_eq_true h
    rw [show (sS l).length = l.length by simp [sS]] at this
    omega
  repeat (walk_at "w")
  refine we_cval cr cv2 (fun _ => .int _) ?_
  repeat (walk_at "w")
  refine ⟨_, rfl, fun h => ?_, fun _ => ws_next ?_⟩
  · exfalso
    have := of_decide_eq_true h
    rw [show (dPs (srtP (ls.map ordP))).length = ls.length by simp [dPs, srtP_len]] at this
    omega
  refine ws_seq (ws_setI (i := 0) (a := a) rfl T.cl T.nN (we_cb (wa_cons (WO.we (wo_cb ?_)))))
  repeat (walk_at "w")
  refine vco_srtA hd (by omega) ?_
  repeat (walk_at "w")
  refine vc_tupleL ⟨by decide, ?_⟩
  show WS _ _ [.ins a [("own_nodes", .tup (sS (srtS l)))], .da d, .da e, .da (.lst (dPs (srtP (ls.map ordP)))), .no] _
  refine ws_seq (ws_setI (i := 0) (a := a) rfl T.cl T.nL (we_cb ?_))
  repeat (walk_at "w")
  refine vc_tupleL ⟨by show (1 : Nat) ≤ 100; decide, ?_⟩
  have a1 : ¬ (("own_nodes" : Str) = "own_links") := by decide +kernel
  have a2 : ¬ (("own_nodes" : Str) = "own_near") := by decide +kernel
  have a3 : ¬ (("own_links" : Str) = "own_near") := by decide +kernel
  have b1 : (("own_links" : Str) == "own_nodes") = false := by decide +kernel
  have e1 : ∀ X Y : D, putFD "own_links" X ([("own_nodes", Y)] : List (Str × D)) = ([("own_nodes", Y), ("own_links", X)] : List (Str × D)) := fun X Y => by
    unfold putFD
    rw [if_neg a1]
    rfl
  show WS _ _ [.ins a (putFD "own_links" (.tup (dPs (srtP (ls.map ordP)))) [("own_nodes", .tup (sS (srtS l)))]), .da d, .da e, .da (.lst (dPs (srtP (ls.map ordP)))), .no] _
  rw [e1]
  refine ws_setI (i := 0) (a := a) rfl T.cl T.nR (we_call (wa_cons (we_fldI (i := 0) rfl T.cl T.nN (by rfl) (wa_cons (we_fldI (i := 0) rfl T.cl T.nL (by rw [List.lookup_cons, b1]; rfl) (wa_nil ?_))))))
  refine ⟨⟨_, _, rfl, ends2_of N L⟩, fun r hr' => ⟨by show (2 : Nat) ≤ 100; decide, srtS l, srtP (ls.map ordP), nearOf (srtS l) (srtP (ls.map ordP)), ?_, ?_⟩⟩
  · rw [hr' _ _ rfl]
    show some (Ent.ins a (putFD "own_near" _ _)) = _
    unfold putFD
    rw [if_neg a2]
    unfold putFD
    rw [if_neg a3]
    rfl
  · intro d' e' l' ls' ee hd' he'
    cases ee
    rw [hd] at hd'
    rw [he] at he'
    have e1 := sS_inj.mp (Option.some.inj hd')
    have e2 := dPs_inj.mp (Option.some.inj he')
    subst e1 e2
    rfl
end
end K11

/-! K11M: the methods of Net. -/
namespace K11
open PySem PySem.Spec PyProof.Rows L2

/-- a method of the text: where it stands -/
structure Fm (K : PySem.W.Frag) (C : Addr) (m qual : Str) (ps : List Str) (st : Stmt) : Prop where
  ex : ∃ (f : Addr) (fd : FuncData), FunX K m qual st f fd ∧ Meth K C m f ∧ Binds K fd ps []
theorem Fm.mt {P : Program} {w : World} {K : PySem.W.Frag} {mg : Str → Option Value} {base : Heap} {C : Addr} {k : Nat} {m qual : Str} {ps : List Str} {st : Stmt} {sp : Sp} (F : Fm K C m qual ps st)
    (h : ∀ f fd, FunX K m qual st f fd → FnOk P w K mg base CX0 k f fd ps sp) : Mt P w K mg base C k m ps sp := by
  obtain ⟨f, fd, h1, h2, h3⟩ := F.ex
  exact ⟨f, fd, h f fd h1, h2, h3⟩

local macro_rules | `(tactic| walk_at "w") => `(tactic| (first
  | (with_reducible refine ws_seq ?_)
  | (with_reducible refine ws_ret ?_)
  | (with_reducible refine ws_if ?_)
  | (with_reducible refine ws_asg ?_)
  | (with_reducible refine ws_break ?_)
  | (with_reducible refine ws_drop ?_)
  | (with_reducible refine we_var (by with_unfolding_all rfl) ?_)
  | (with_reducible refine we_int ?_)
  | (with_reducible refine we_str ?_)
  | (with_reducible refine we_bl ?_)
  | (with_reducible refine we_non ?_)
  | (with_reducible refine we_ty ?_)
  | (with_reducible refine we_cls ?_)
  | (with_reducible refine wa_cons ?_)
  | (with_reducible refine wa_nil ?_)
  | (with_reducible refine we_cb ?_)
  | (with_reducible refine vc_lenL ?_)
  | (with_reducible refine vc_lenT ?_)
  | (with_reducible refine v2_B0 ?_)
  | (with_reducible refine we_call ?_)
  | (with_reducible refine we_op ?_)
  | (with_reducible refine we_tup ?_)
  | (with_reducible refine we_if ?_)
  | (with_reducible refine we_chain ?_)
  | (with_reducible refine wt_test ?_)
  | (with_reducible refine wt_B ?_)
  | (with_reducible refine wt_not ?_)
  | (with_reducible refine wt_or ?_)
  | (with_reducible refine wt_and ?_)))

theorem pe_fldK {X : Cx} {K : PySem.W.Frag} {e : Expr} {f : Str} {pos : Pos} {ta : TE} (hK : X.K = K) (he : PE X e ta) (hb : attributeBase e f X.env (eval e X.env) = eval e X.env) : PE X (.Attribute e f pos) (tFld K ta f) := hK ▸ pe_fld he hb
structure NetW (ns : List Str) (ls : List Lk) (nr : List (Str × List Str)) : Prop where
  nm : Names ns
  e2 : Ends2 ns ls
  nr : nr = nearOf ns ls
theorem near_keys (ns : List Str) (ls : List Lk) : (nearOf ns ls).map (·.1) = ns := by
  unfold nearOf
  rw [List.map_map]
  exact List.map_id _
theorem nearOf_look {ns : List Str} {ls : List Lk} {a : Str} (h : a ∈ ns) : (nearOf ns ls).lookup a = some (srtS (raw ls a)) := by
  induction ns with
  | nil => cases h
  | cons b ns ih =>
    show ((b, srtS (raw ls b)) :: nearOf ns ls).lookup a = _
    rw [List.lookup_cons]
    by_cases e : a = b
    · subst e; simp
    · rw [show (a == b) = false from by simpa using e]
      exact ih ((List.mem_cons.mp h).resolve_left e)
theorem nearOf_none {ns : List Str} {ls : List Lk} {a : Str} (h : a ∉ ns) : (nearOf ns ls).lookup a = none := by
  rw [List.lookup_eq_none_iff]
  intro p hp
  unfold nearOf at hp
  obtain ⟨n, hn, e⟩ := List.mem_map.mp hp
  subst e
  have : a ≠ n := fun z => h (z ▸ hn)
  simpa using this
theorem near_getD (nr : List (Str × List Str)) (a : Str) : ((nearD nr).lookup a).getD (.tup []) = .tup (sS (nbOf nr a)) := by
  unfold nbOf
  cases z : nr.lookup a with
  | some l => rw [nearD_look z]; rfl
  | none =>
    have : (nearD nr).lookup a = none := by
      rw [List.lookup_eq_none_iff] at z ⊢
      intro p hp
      unfold nearD at hp
      obtain ⟨q, hq, e⟩ := List.mem_map.mp hp
      subst e
      exact z q hq
    rw [this]
    rfl
theorem near_some (nr : List (Str × List Str)) (a : Str) : ((nearD nr).lookup a).isSome = decide (a ∈ nr.map (·.1)) := by
  induction nr with
  | nil => rfl
  | cons p nr ih =>
    obtain ⟨b, l⟩ := p
    show (((b, D.tup (sS l)) :: nearD nr).lookup a).isSome = _
    rw [List.lookup_cons]
    by_cases e : a = b
    · subst e; simp
    · rw [show (a == b) = false from by simpa using e]
      show ((nearD nr).lookup a).isSome = _
      rw [ih]
      simp [e]
def hasD (nr : List (Str × List Str)) : D → Bool
  | .tup [.str a, .str b] => linkD (.tup [.str a, .str b]) && decide (b ∈ nbOf nr a)
  | _ => false
def inNet (nr : List (Str × List Str)) : D → Bool
  | .str s => decide (s ∈ nr.map (·.1))
  | d => hasD nr d
section
variable {P : Program} {w : World} {K : PySem.W.Frag} {mg : Str → Option Value} {base : Heap} {C : Addr}

abbrev sSizeM : Stmt := inClass (top 27) 7
abbrev nSizeM : List Str := ["self"]
theorem scSizeM : FnScope nSizeM ["self"] (defScope sSizeM) := ⟨rfl, rfl, rfl, by decide +kernel, rfl, by decide +kernel, by decide +kernel⟩
def preSelf : List D → Prop := fun ds => ∃ ns ls nr, ds = [.net ns ls nr]
def postSize : List D → D → Prop := fun ds r => ∀ ns ls nr, ds = [.net ns ls nr] → r = .int ls.length
theorem net_inj {ns ns' : List Str} {ls ls' : List Lk} {nr nr' : List (Str × List Str)} {r r' : List D} (h : D.net ns ls nr :: r = .net ns' ls' nr' :: r') : ns = ns' ∧ ls = ls' ∧ nr = nr' ∧ r = r' := by
  have h1 := List.cons.inj h
  have h2 := D.net.inj h1.1
  exact ⟨h2.1, h2.2.1, h2.2.2, h1.2⟩
theorem ok_size {f : Addr} {fd : FuncData} (F : FunX K "size" "Net.size" sSizeM f fd) (M : Mb mg) (T : NetC K C) : FnOk P w K mg base CX0 1 f fd ["self"] (SpD K C preSelf postSize) := by
  refine fnD F scSizeM (fun ds ⟨_, _, _, e⟩ => by rw [e]; rfl) fun cdv A outer s H E hr => ?_
  refine ⟨_, (pss_one (ps_ret (pe_callB call_len2 (by rfl) M.len PySem.boot_len (pa_cons (pe_fld (pv 0) rfl) pa_nil)))), fun pot old M H ds hp => ?_⟩
  obtain ⟨ns, ls, nr, rfl⟩ := hp
  dsimp only [cxOf, Cx.nox, Cx.wish]
  show WS _ _ [.da (.net ns ls nr)] _
  repeat (walk_at "w")
  refine we_links T ?_
  repeat (walk_at "w")
  refine ⟨ns, ls, nr, rfl, ?_⟩
  repeat (walk_at "w")
  intro ns' ls' nr' e
  obtain ⟨e1, e2, e3, _⟩ := net_inj e
  subst e1 e2 e3
  rw [show (dPs ls).length = ls.length by simp [dPs]]

abbrev sNodesM : Stmt := inClass (top 27) 8
abbrev nNodesM : List Str := ["self"]
theorem scNodesM : FnScope nNodesM ["self"] (defScope sNodesM) := ⟨rfl, rfl, rfl, by decide +kernel, rfl, by decide +kernel, by decide +kernel⟩
def postNodes : List D → List D → Prop := fun ds r => ∀ ns ls nr, ds = [.net ns ls nr] → r = sS ns
def postLinks : List D → List D → Prop := fun ds r => ∀ ns ls nr, ds = [.net ns ls nr] → r = dPs ls
theorem mt_nodes (F : Fm K C "nodes" "Net.nodes" ["self"] sNodesM) (M : Mb mg) (T : NetC K C) : Mt P w K mg base C 1 "nodes" ["self"] (SpO K C preSelf postNodes) := F.mt fun f fd F => by
  refine fnO F scNodesM (fun ds ⟨_, _, _, e⟩ => by rw [e]; rfl) fun cdv A outer s H E hr => ?_
  refine ⟨_, (pss_one (ps_ret (pe_callTy call_list2 (by rfl) M.list (by decide +kernel) (pa_cons (pe_fld (pv 0) rfl) pa_nil)))), fun pot old M H ds hp => ?_⟩
  obtain ⟨ns, ls, nr, rfl⟩ := hp
  dsimp only [cxOf, Cx.nox, Cx.wish]
  show WS _ _ [.da (.net ns ls nr)] _
  refine ws_retO (wo_cb (wa_cons (we_nodes T ?_)))
  repeat (walk_at "w")
  refine ⟨ns, ls, nr, rfl, ?_⟩
  repeat (walk_at "w")
  refine vco_listT fun ns' ls' nr' e => ?_
  obtain ⟨e1, e2, e3, _⟩ := net_inj e
  subst e1 e2 e3
  rfl
abbrev sLinksM : Stmt := inClass (top 27) 9
abbrev nLinksM : List Str := ["self"]
theorem scLinksM : FnScope nLinksM ["self"] (defScope sLinksM) := ⟨rfl, rfl, rfl, by decide +kernel, rfl, by decide +kernel, by decide +kernel⟩
theorem mt_links (F : Fm K C "links" "Net.links" ["self"] sLinksM) (M : Mb mg) (T : NetC K C) : Mt P w K mg base C 1 "links" ["self"] (SpO K C preSelf postLinks) := F.mt fun f fd F => by
  refine fnO F scLinksM (fun ds ⟨_, _, _, e⟩ => by rw [e]; rfl) fun cdv A outer s H E hr => ?_
  refine ⟨_, (pss_one (ps_ret (pe_callTy call_list2 (by rfl) M.list (by decide +kernel) (pa_cons (pe_fld (pv 0) rfl) pa_nil)))), fun pot old M H ds hp => ?_⟩
  obtain ⟨ns, ls, nr, rfl⟩ := hp
  dsimp only [cxOf, Cx.nox, Cx.wish]
  show WS _ _ [.da (.net ns ls nr)] _
  refine ws_retO (wo_cb (wa_cons (we_links T ?_)))
  repeat (walk_at "w")
  refine ⟨ns, ls, nr, rfl, ?_⟩
  repeat (walk_at "w")
  refine vco_listT fun ns' ls' nr' e => ?_
  obtain ⟨e1, e2, e3, _⟩ := net_inj e
  subst e1 e2 e3
  rfl
abbrev sLenM : Stmt := inClass (top 27) 23
abbrev nLenM : List Str := ["self"]
theorem scLenM : FnScope nLenM ["self"] (defScope sLenM) := ⟨rfl, rfl, rfl, by decide +kernel, rfl, by decide +kernel, by decide +kernel⟩
def postLen : List D → D → Prop := fun ds r => ∀ ns ls nr, ds = [.net ns ls nr] → r = .int ns.length
theorem mt_len (F : Fm K C "__len__" "Net.__len__" ["self"] sLenM) (M : Mb mg) (T : NetC K C) : Mt P w K mg base C 1 "__len__" ["self"] (SpD K C preSelf postLen) := F.mt fun f fd F => by
  refine fnD F scLenM (fun ds ⟨_, _, _, e⟩ => by rw [e]; rfl) fun cdv A outer s H E hr => ?_
  refine ⟨_, (pss_one (ps_ret (pe_callB call_len2 (by rfl) M.len PySem.boot_len (pa_cons (pe_fld (pv 0) rfl) pa_nil)))), fun pot old M H ds hp => ?_⟩
  obtain ⟨ns, ls, nr, rfl⟩ := hp
  dsimp only [cxOf, Cx.nox, Cx.wish]
  show WS _ _ [.da (.net ns ls nr)] _
  repeat (walk_at "w")
  refine we_nodes T ?_
  repeat (walk_at "w")
  refine ⟨ns, ls, nr, rfl, ?_⟩
  repeat (walk_at "w")
  intro ns' ls' nr' e
  obtain ⟨e1, e2, e3, _⟩ := net_inj e
  subst e1 e2 e3
  rw [show (sS ns).length = ns.length by simp [sS]]

/-! ### has_link, __contains__ -/
abbrev sHasLinkM : Stmt := inClass (top 27) 11
abbrev nHasLinkM : List Str := ["self", "value"]
theorem scHasLinkM : FnScope nHasLinkM ["self", "value"] (defScope sHasLinkM) := ⟨rfl, rfl, rfl, by decide +kernel, rfl, by decide +kernel, by decide +kernel⟩
def preHas : List D → Prop := fun ds => ∃ ns ls nr d, ds = [.net ns ls nr, d] ∧ preLink [d]
def postHas : List D → D → Prop := fun ds r => ∀ ns ls nr d, ds = [.net ns ls nr, d] → r = .bl (hasD nr d)
theorem linkD_shape {d : D} (h : linkD d = true) : ∃ a b, d = .tup [.str a, .str b] := by
  unfold linkD at h
  split at h
  · exact ⟨_, _, rfl⟩
  · cases h
theorem hasD_no {nr : List (Str × List Str)} {d : D} (h : linkD d = false) : hasD nr d = false := by
  unfold hasD
  split
  · rw [h]; rfl
  · rfl
theorem mt_has_link (F : Fm K C "has_link" "Net.has_link" ["self", "value"] sHasLinkM) (T : NetC K C) (c_is_link : Cl P w K mg base 2 "is_link" ["value"] (SpD K C preLink postLink)) : Mt P w K mg base C 3 "has_link" ["self", "value"] (SpD K C preHas postHas) := F.mt fun f fd F => by
  refine fnD F scHasLinkM (fun ds ⟨_, _, _, _, e, _⟩ => by rw [e]; rfl) fun cdv A outer s H E hr => ?_
  have hu := hu_of hr
  refine ⟨_, (pss_one (ps_ret (pe_and (pcl c_is_link (hr.mono (by decide)) (pa_cons (pv 1) pa_nil)) (pe_one (pe_cmpR op_in_seq (pe_ix ix_tup (pv 1) pe_int (fun _ _ => rfl)) (pe_dget2 hu (pe_fld (pv 0) rfl) (pe_ix ix_tup (pv 1) pe_int (fun _ _ => rfl)) (pe_tup pa_nil) ⟨by rfl, by rfl, by rfl, by rfl⟩) (by rfl)))))), fun pot old M H ds hp => ?_⟩
  obtain ⟨ns, ls, nr, d, rfl, hd⟩ := hp
  dsimp only [cxOf, Cx.nox, Cx.wish]
  show WS _ _ [.da (.net ns ls nr), .da d] _
  have no : ∀ b : Bool, hasD nr d = b → postHas [.net ns ls nr, d] (.bl b) := fun b h ns' ls' nr' d' e => by
    obtain ⟨e1, e2, e3, e4⟩ := net_inj e
    have e5 := (List.cons.inj e4).1
    subst e1 e2 e3 e5
    rw [h]
  refine ws_ret (we_andV ?_)
  repeat (walk_at "w")
  refine ⟨hd, fun r hr' => ⟨_, hr' d rfl, fun h => ?_, fun h => no _ (hasD_no h)⟩⟩
  obtain ⟨a, b, rfl⟩ := linkD_shape h
  repeat (walk_at "w")
  refine v2_ixT (j := 1) rfl rfl ?_
  refine we_dget2 (we_near T ?_)
  repeat (walk_at "w")
  refine ⟨ns, ls, nr, rfl, _, rfl, ?_⟩
  repeat (walk_at "w")
  refine v2_ixT (j := 0) rfl rfl ⟨a, rfl, ?_⟩
  repeat (walk_at "w")
  refine ⟨by decide, ?_⟩
  rw [near_getD]
  refine v2_inT (no _ ?_)
  show (linkD (.tup [.str a, .str b]) && decide (b ∈ nbOf nr a)) = _
  rw [h]
  rfl
abbrev sContainsM : Stmt := inClass (top 27) 22
abbrev nContainsM : List Str := ["self", "value"]
theorem scContainsM : FnScope nContainsM ["self", "value"] (defScope sContainsM) := ⟨rfl, rfl, rfl, by decide +kernel, rfl, by decide +kernel, by decide +kernel⟩
def postIn : List D → D → Prop := fun ds r => ∀ ns ls nr d, ds = [.net ns ls nr, d] → r = .bl (inNet nr d)
theorem mt_contains (F : Fm K C "__contains__" "Net.__contains__" ["self", "value"] sContainsM) (M : Mb mg) (T : NetT K C) (c_has_link : Mt P w K mg base C 3 "has_link" ["self", "value"] (SpD K C preHas postHas)) : Mt P w K mg base C 4 "__contains__" ["self", "value"] (SpD K C preHas postIn) := F.mt fun f fd F => by
  refine fnD F scContainsM (fun ds ⟨_, _, _, _, e, _⟩ => by rw [e]; rfl) fun cdv A outer s H E hr => ?_
  have hu := hu_of hr
  refine ⟨_, (pss_cons (ps_if (pt_val (pe_callB call_isi (by rfl) M.isinstance (by decide +kernel) (pa_cons (pv 1) (pa_cons (pe_bltn (v := .ty "str") (by rfl) M.str (by decide +kernel) rfl) pa_nil)))) (pss_one (ps_ret (pe_cmp (pc_din hu (pv 1) (pe_fld (pv 0) rfl))))) pss_nil)
    (pss_one (ps_ret (pmt c_has_link T.cl (hr.mono (by decide)) (pv 0) (pa_cons (pv 1) pa_nil))))), fun pot old M H ds hp => ?_⟩
  obtain ⟨ns, ls, nr, d, rfl, hd⟩ := hp
  dsimp only [cxOf, Cx.nox, Cx.wish]
  show WS _ _ [.da (.net ns ls nr), .da d] _
  have no : ∀ b : Bool, inNet nr d = b → postIn [.net ns ls nr, d] (.bl b) := fun b h ns' ls' nr' d' e => by
    obtain ⟨e1, e2, e3, e4⟩ := net_inj e
    have e5 := (List.cons.inj e4).1
    subst e1 e2 e3 e5
    rw [h]
  have hi : d.inst = true := by obtain ⟨d', e, h, _⟩ := hd; cases e; exact h
  repeat (walk_at "w")
  refine vc_isiStr T hi ⟨_, rfl, fun h => ?_, fun h => ?_⟩
  · obtain ⟨s, rfl⟩ : ∃ s, d = .str s := by cases d <;> first | exact ⟨_, rfl⟩ | cases h
    refine ws_ret (we_din ?_)
    repeat (walk_at "w")
    refine ⟨s, rfl, we_near T.toNetC ?_⟩
    repeat (walk_at "w")
    refine ⟨ns, ls, nr, rfl, _, rfl, ?_⟩
    rw [near_some]
    exact no _ rfl
  · refine ws_next (ws_ret (we_meth (by decide +kernel) ?_))
    repeat (walk_at "w")
    refine ⟨ns, ls, nr, rfl, ?_⟩
    repeat (walk_at "w")
    refine ⟨⟨ns, ls, nr, d, rfl, hd⟩, fun r hr' => ?_⟩
    rw [hr' ns ls nr d rfl]
    refine no _ ?_
    cases d with
    | str s => cases h
    | _ => rfl

/-! ### want_net, want_node -/
abbrev sWantNet : Stmt := top 28
abbrev nWantNet : List Str := ["value"]
theorem scWantNet : FnScope nWantNet ["value"] (defScope sWantNet) := ⟨rfl, rfl, rfl, by decide +kernel, rfl, by decide +kernel, by decide +kernel⟩
theorem cl_want_net (F : Fd K mg "want_net" ["value"] sWantNet) (M : Mb mg) (G : Gt mg C) (T : NetT K C) : Cl P w K mg base 1 "want_net" ["value"] (SpD K C preSelf fun _ r => r = .non) := F.cl fun f fd F => by
  refine fnD F scWantNet (fun ds ⟨_, _, _, e⟩ => by rw [e]; rfl) fun cdv A outer s H E hr => ?_
  refine ⟨_, (pss_one (ps_if (pt_not (pt_val (pe_callB call_isi (by rfl) M.isinstance (by decide +kernel) (pa_cons (pv 0) (pa_cons (pe_glob (v := .ref C) (by rfl) G.net rfl) pa_nil))))) (pss_one ps_never) pss_nil)), fun pot old M H ds hp => ?_⟩
  obtain ⟨ns, ls, nr, rfl⟩ := hp
  dsimp only [cxOf, Cx.nox, Cx.wish]
  show WS _ _ [.da (.net ns ls nr)] _
  repeat (walk_at "w")
  exact vc_isiNet T rfl ⟨_, rfl, fun h => (nomatch h), fun _ => ws_next rfl⟩
abbrev sWantNode : Stmt := top 29
abbrev nWantNode : List Str := ["net", "value"]
theorem scWantNode : FnScope nWantNode ["net", "value"] (defScope sWantNode) := ⟨rfl, rfl, rfl, by decide +kernel, rfl, by decide +kernel, by decide +kernel⟩
def preNode : List D → Prop := fun ds => ∃ ns ls nr s, ds = [.net ns ls nr, .str s] ∧ s ∈ nr.map (·.1) ∧ s.length ≤ 1000
theorem cl_want_node (F : Fd K mg "want_node" ["net", "value"] sWantNode) (M : Mb mg) (T : NetT K C) (c_contains : Mt P w K mg base C 4 "__contains__" ["self", "value"] (SpD K C preHas postIn)) : Cl P w K mg base 5 "want_node" ["net", "value"] (SpD K C preNode fun _ r => r = .non) := F.cl fun f fd F => by
  refine fnD F scWantNode (fun ds ⟨_, _, _, _, e, _⟩ => by rw [e]; rfl) fun cdv A outer s H E hr => ?_
  refine ⟨_, (pss_one (ps_if (PW.pt (pw_or (pt_not (pt_val (pe_callB call_isi (by rfl) M.isinstance (by decide +kernel) (pa_cons (pv 1) (pa_cons (pe_bltn (v := .ty "str") (by rfl) M.str (by decide +kernel) rfl) pa_nil))))) (pw_or1 (pt_cmpR (op_notInN c_contains (hr.mono (by decide))) (pv 1) (pv 0) (by rfl))))) (pss_one ps_never) pss_nil)), fun pot old M H ds hp => ?_⟩
  obtain ⟨ns, ls, nr, s, rfl, hs, hl⟩ := hp
  dsimp only [cxOf, Cx.nox, Cx.wish]
  show WS _ _ [.da (.net ns ls nr), .da (.str s)] _
  repeat (walk_at "w")
  refine vc_isiStr T rfl ⟨_, rfl, fun h => (nomatch h), fun _ => ?_⟩
  refine wt_test (we_inN ?_)
  repeat (walk_at "w")
  refine ⟨ns, ls, nr, rfl, ⟨ns, ls, nr, _, rfl, _, rfl, rfl, fun l e => by cases e⟩, fun r hr' => ⟨_, hr' ns ls nr _ rfl, _, rfl, fun h => ?_, fun _ => ws_next rfl⟩⟩
  rw [show inNet nr (.str s) = true from decide_eq_true hs] at h
  cases h

/-! ### neighbours, piece_of -/
abbrev sNeighboursM : Stmt := inClass (top 27) 10
abbrev nNeighboursM : List Str := ["self", "node"]
theorem scNeighboursM : FnScope nNeighboursM ["self", "node"] (defScope sNeighboursM) := ⟨rfl, rfl, rfl, by decide +kernel, rfl, by decide +kernel, by decide +kernel⟩
def postNb : List D → List D → Prop := fun ds r => ∀ ns ls nr s, ds = [.net ns ls nr, .str s] → r = sS (nbOf nr s)
theorem fn_neighbours {f : Addr} {fd : FuncData} (F : FunX K "neighbours" "Net.neighbours" sNeighboursM f fd) (M : Mb mg) (T : NetC K C) (c_want_node : Cl P w K mg base 5 "want_node" ["net", "value"] (SpD K C preNode fun _ r => r = .non)) : FnOk P w K mg base CX0 6 f fd ["self", "node"] (SpO K C preNode postNb) := by
  refine fnO F scNeighboursM (fun ds ⟨_, _, _, _, e, _⟩ => by rw [e]; rfl) fun cdv A outer s H E hr => ?_
  have hu := hu_of hr
  refine ⟨_, (pss_cons (ps_expr (pcl c_want_node (hr.mono (by decide)) (pa_cons (pv 0) (pa_cons (pv 1) pa_nil))))
    (pss_one (ps_ret (pe_callTy call_list2 (by rfl) M.list (by decide +kernel) (pa_cons (pe_dget hu (pe_fld (pv 0) rfl) (pv 1) (fun _ _ => rfl)) pa_nil))))), fun pot old M H ds hp => ?_⟩
  obtain ⟨ns, ls, nr, s, rfl, hs, hl⟩ := hp
  dsimp only [cxOf, Cx.nox, Cx.wish]
  show WS _ _ [.da (.net ns ls nr), .da (.str s)] _
  repeat (walk_at "w")
  refine ⟨⟨ns, ls, nr, s, rfl, hs, hl⟩, fun _ _ => ?_⟩
  refine ws_retO (wo_cb (wa_cons (we_dget (we_near T ?_))))
  repeat (walk_at "w")
  refine ⟨ns, ls, nr, rfl, _, rfl, ?_⟩
  repeat (walk_at "w")
  refine ⟨s, _, rfl, nearD_look (look_some hs), ?_⟩
  repeat (walk_at "w")
  refine vco_listT fun ns' ls' nr' s' e => ?_
  obtain ⟨e1, e2, e3, e4⟩ := net_inj e
  have e5 := D.str.inj (List.cons.inj e4).1
  subst e1 e2 e3 e5
  rfl
theorem mt_neighbours (F : Fm K C "neighbours" "Net.neighbours" ["self", "node"] sNeighboursM) (M : Mb mg) (T : NetC K C) (c_want_node : Cl P w K mg base 5 "want_node" ["net", "value"] (SpD K C preNode fun _ r => r = .non)) : Mt P w K mg base C 6 "neighbours" ["self", "node"] (SpO K C preNode postNb) := F.mt fun f fd F => fn_neighbours F M T c_want_node
abbrev sPieceOfM : Stmt := inClass (top 27) 12
abbrev nPieceOfM : List Str := ["self", "node"]
theorem scPieceOfM : FnScope nPieceOfM ["self", "node"] (defScope sPieceOfM) := ⟨rfl, rfl, rfl, by decide +kernel, rfl, by decide +kernel, by decide +kernel⟩
def prePieceOf : List D → Prop := fun ds => ∃ ns ls nr s, ds = [.net ns ls nr, .str s] ∧ s ∈ nr.map (·.1) ∧ s.length ≤ 1000 ∧ Grf nr
def IsPiece (nr : List (Str × List Str)) (s : Str) (r : List D) : Prop := ∃ f : List Str, r = sS (srtS f) ∧ f.Nodup ∧ ∀ x, x ∈ f ↔ Rch (nbOf nr) s x
def postPieceOf : List D → List D → Prop := fun ds r => ∀ ns ls nr s, ds = [.net ns ls nr, .str s] → IsPiece nr s r
theorem fn_piece_of {f : Addr} {fd : FuncData} (F : FunX K "piece_of" "Net.piece_of" sPieceOfM f fd) (T : NetC K C) (c_want_node : Cl P w K mg base 5 "want_node" ["net", "value"] (SpD K C preNode fun _ r => r = .non)) (c_joined_to : Cl P w K mg base 1 "joined_to" ["near", "start"] (SpO K C preJoin postJoin)) : FnOk P w K mg base CX0 6 f fd ["self", "node"] (SpO K C prePieceOf postPieceOf) := by
  refine fnO F scPieceOfM (fun ds ⟨_, _, _, _, e, _⟩ => by rw [e]; rfl) fun cdv A outer s H E hr => ?_
  refine ⟨_, (pss_cons (ps_expr (pcl c_want_node (hr.mono (by decide)) (pa_cons (pv 0) (pa_cons (pv 1) pa_nil))))
    (pss_one (ps_ret (pcl c_joined_to (hr.mono (by decide)) (pa_cons (pe_fld (pv 0) rfl) (pa_cons (pv 1) pa_nil)))))), fun pot old M H ds hp => ?_⟩
  obtain ⟨ns, ls, nr, s, rfl, hs, hl, W⟩ := hp
  dsimp only [cxOf, Cx.nox, Cx.wish]
  show WS _ _ [.da (.net ns ls nr), .da (.str s)] _
  repeat (walk_at "w")
  refine ⟨⟨ns, ls, nr, s, rfl, hs, hl⟩, fun _ _ => ?_⟩
  refine ws_retO (wo_call (wa_cons (we_near T ?_)))
  repeat (walk_at "w")
  refine ⟨ns, ls, nr, rfl, ?_⟩
  repeat (walk_at "w")
  refine ⟨⟨nr, s, rfl, W, hs⟩, fun r hr' ns' ls' nr' s' e => ?_⟩
  obtain ⟨e1, e2, e3, e4⟩ := net_inj e
  have e5 := D.str.inj (List.cons.inj e4).1
  subst e1 e2 e3 e5
  exact hr' _ _ rfl

theorem mt_piece_of (F : Fm K C "piece_of" "Net.piece_of" ["self", "node"] sPieceOfM) (T : NetC K C) (c_want_node : Cl P w K mg base 5 "want_node" ["net", "value"] (SpD K C preNode fun _ r => r = .non)) (c_joined_to : Cl P w K mg base 1 "joined_to" ["near", "start"] (SpO K C preJoin postJoin)) : Mt P w K mg base C 6 "piece_of" ["self", "node"] (SpO K C prePieceOf postPieceOf) := F.mt fun f fd F => fn_piece_of F T c_want_node c_joined_to
/-! ### is_part_of, == -/
abbrev sIsPartOfM : Stmt := inClass (top 27) 17
abbrev nIsPartOfM : List Str := ["self", "other", "has_nodes", "node", "link"]
theorem scIsPartOfM : FnScope nIsPartOfM ["self", "other"] (defScope sIsPartOfM) := ⟨rfl, rfl, rfl, by decide +kernel, rfl, by decide +kernel, by decide +kernel⟩
def NetSm (ns : List Str) (ls : List Lk) : Prop := ns.length ≤ 60 ∧ ls.length ≤ 120 ∧ ∀ p ∈ ls, nameOk p.1 = true ∧ nameOk p.2 = true
def prePart : List D → Prop := fun ds => ∃ ns ls nr ns' ls' nr', ds = [.net ns ls nr, .net ns' ls' nr'] ∧ NetSm ns ls
def partB (ns : List Str) (ls : List Lk) (nr' : List (Str × List Str)) : Bool := (ns.all fun n => decide (n ∈ nr'.map (·.1))) && ls.all fun p => hasD nr' (dP p)
def postPart : List D → D → Prop := fun ds r => ∀ ns ls nr ns' ls' nr', ds = [.net ns ls nr, .net ns' ls' nr'] → r = .bl (partB ns ls nr')
theorem fn_is_part_of {f : Addr} {fd : FuncData} (F : FunX K "is_part_of" "Net.is_part_of" sIsPartOfM f fd) (M : Mb mg) (T : NetC K C) (c_want_net : Cl P w K mg base 1 "want_net" ["value"] (SpD K C preSelf fun _ r => r = .non)) (c_has_link : Mt P w K mg base C 3 "has_link" ["self", "value"] (SpD K C preHas postHas)) :
    FnOk P w K mg base CX0 4 f fd ["self", "other"] (SpD K C prePart postPart) := by
  refine fnD F scIsPartOfM (fun ds ⟨_, _, _, _, _, _, e, _⟩ => by rw [e]; rfl) fun cdv A outer s H E hr => ?_
  have hu := hu_of hr
  refine ⟨_, (pss_cons (ps_expr (pcl c_want_net (hr.mono (by decide)) (pa_cons (pv 1) pa_nil)))
    (pss_cons (ps_set (i := 2) scIsPartOfM.nd rfl (by first | exact Or.inl rfl | exact Or.inr rfl) (pe_callB (cr_all rfl) (by rfl) M.all (by decide +kernel) (pa_cons (pe_lc (own := [("node", 3)]) (by rfl) scIsPartOfM.nd (pi_tup (pe_fld (pv 0) rfl)) (blkOk_by (N := nIsPartOfM) (sc := defScope sIsPartOfM) (by decide +kernel)) (fun _ _ _ _ _ => (pg_name (i := 3) scIsPartOfM.nd rfl (by first | exact Or.inl rfl | exact Or.inr rfl))) (fun _ _ _ _ _ => pts_nil) (fun _ _ _ _ _ => (pe_cmp (pc_din hu (pv 3) (pe_fldK (K := K) rfl (pv 1) rfl))))) pa_nil)))
    (pss_one (ps_ret (pe_and (pv 2) (pe_one (pe_callB (cr_all rfl) (by rfl) M.all (by decide +kernel) (pa_cons (pe_lc (own := [("link", 4)]) (by rfl) scIsPartOfM.nd (pi_tup (pe_fld (pv 0) rfl)) (blkOk_by (N := nIsPartOfM) (sc := defScope sIsPartOfM) (by decide +kernel)) (fun _ _ _ _ _ => (pg_name (i := 4) scIsPartOfM.nd rfl (by first | exact Or.inl rfl | exact Or.inr rfl))) (fun _ _ _ _ _ => pts_nil) (fun _ _ _ _ _ => (by exact pmt c_has_link T.cl (hr.mono (by decide)) (pv 1) (pa_cons (pv 4) pa_nil)))) pa_nil)))))))), fun pot old M H ds hp => ?_⟩
  obtain ⟨ns, ls, nr, ns', ls', nr', rfl, n60, l120, ok⟩ := hp
  dsimp only [cxOf, Cx.nox, Cx.wish]
  show WS _ _ [.da (.net ns ls nr), .da (.net ns' ls' nr'), .no, .no, .no] _
  repeat (walk_at "w")
  refine ⟨⟨_, _, _, rfl⟩, fun _ _ => ?_⟩
  repeat (walk_at "w")
  refine WO.we (wo_lc (go_name (by simp)) (wi_tup (we_nodes T ?_)))
  repeat (walk_at "w")
  refine ⟨ns, ls, nr, rfl, _, rfl, by simp [sS]; omega, fun i acc => acc = sB ((ns.take i).map fun n => decide (n ∈ nr'.map (·.1))), rfl, ?_, ?_⟩
  · rintro i d acc hd rfl
    obtain ⟨s, rfl, hs⟩ := get_sS hd
    refine wg_name (wt_yes ⟨fun _ => ?_, fun h => nomatch h⟩)
    show WE _ _ [.da (.net ns ls nr), .da (.net ns' ls' nr'), .no, .da (.str s), .no] _
    refine we_din ?_
    repeat (walk_at "w")
    refine ⟨s, rfl, we_near T ?_⟩
    repeat (walk_at "w")
    refine ⟨_, _, _, rfl, _, rfl, ?_⟩
    rw [near_some]
    show _ = sB ((ns.take (i + 1)).map _)
    rw [List.take_add_one, hs, List.map_append]
    simp [sB]
  rintro acc rfl
  rw [show (sS ns).length = ns.length by simp [sS], List.take_length]
  repeat (walk_at "w")
  refine vc_all (wg_name ?_)
  have no : ∀ b : Bool, partB ns ls nr' = b → postPart [.net ns ls nr, .net ns' ls' nr'] (.bl b) := fun b h a1 a2 a3 a4 a5 a6 e => by
    obtain ⟨e1, e2, e3, e4⟩ := net_inj e
    obtain ⟨f1, f2, f3, f4⟩ := net_inj e4
    subst e1 e2 e3 f1 f2 f3
    rw [h]
  have ea : ((ns.map fun n => decide (n ∈ nr'.map (·.1))).all id) = ns.all fun n => decide (n ∈ nr'.map (·.1)) := by rw [List.all_map]; rfl
  rw [ea]
  show WS _ _ [.da (.net ns ls nr), .da (.net ns' ls' nr'), .da (.bl _), .no, .no] _
  refine ws_ret (we_andV ?_)
  repeat (walk_at "w")
  refine ⟨_, rfl, fun h1 => ?_, fun h1 => no _ (by unfold partB; rw [h1]; rfl)⟩
  repeat (walk_at "w")
  refine WO.we (wo_lc (go_name (by simp)) (wi_tup (we_links T ?_)))
  repeat (walk_at "w")
  refine ⟨ns, ls, nr, rfl, _, rfl, by simp [dPs]; omega, fun i acc => acc = sB ((ls.take i).map fun p => hasD nr' (dP p)), rfl, ?_, ?_⟩
  · rintro i d acc hd rfl
    obtain ⟨p, rfl, hp⟩ := get_dPs hd
    obtain ⟨o1, o2⟩ := ok p (List.mem_of_getElem? hp)
    refine wg_name (wt_yes ⟨fun _ => ?_, fun h => nomatch h⟩)
    show WE _ _ [.da (.net ns ls nr), .da (.net ns' ls' nr'), .da (.bl _), .no, .da (dP p)] _
    refine we_meth (by decide +kernel) ?_
    repeat (walk_at "w")
    refine ⟨_, _, _, rfl, ?_⟩
    repeat (walk_at "w")
    refine ⟨⟨_, _, _, _, rfl, _, rfl, rfl, fun l e x hx => ?_⟩, fun r hr' => ?_⟩
    · cases e
      rcases List.mem_cons.mp hx with e | hx
      · subst e; exact ⟨rfl, fun s e => by cases e; have := name_len o1; omega⟩
      · rcases List.mem_singleton.mp hx with e
        subst e; exact ⟨rfl, fun s e => by cases e; have := name_len o2; omega⟩
    rw [hr' _ _ _ _ rfl]
    show _ = sB ((ls.take (i + 1)).map _)
    rw [List.take_add_one, hp, List.map_append]
    simp [sB]
  rintro acc rfl
  rw [show (dPs ls).length = ls.length by simp [dPs], List.take_length]
  repeat (walk_at "w")
  refine vc_all (no _ ?_)
  unfold partB
  rw [h1, List.all_map]
  rfl
theorem mt_is_part_of (F : Fm K C "is_part_of" "Net.is_part_of" ["self", "other"] sIsPartOfM) (M : Mb mg) (T : NetC K C) (c_want_net : Cl P w K mg base 1 "want_net" ["value"] (SpD K C preSelf fun _ r => r = .non)) (c_has_link : Mt P w K mg base C 3 "has_link" ["self", "value"] (SpD K C preHas postHas)) :
    Mt P w K mg base C 4 "is_part_of" ["self", "other"] (SpD K C prePart postPart) := F.mt fun f fd F => fn_is_part_of F M T c_want_net c_has_link
abbrev sEqM : Stmt := inClass (top 27) 24
abbrev nEqM : List Str := ["self", "other"]
theorem scEqM : FnScope nEqM ["self", "other"] (defScope sEqM) := ⟨rfl, rfl, rfl, by decide +kernel, rfl, by decide +kernel, by decide +kernel⟩
def NetOkS (ns : List Str) (ls : List Lk) : Prop := (∀ s ∈ ns, nameOk s = true) ∧ ∀ p ∈ ls, nameOk p.1 = true ∧ nameOk p.2 = true
def preEq : List D → Prop := fun ds => ∃ ns ls nr d, ds = [.net ns ls nr, d] ∧ d.inst = true ∧ NetOkS ns ls ∧ ∀ ns' ls' nr', d = .net ns' ls' nr' → NetOkS ns' ls'
def eqB (ns : List Str) (ls : List Lk) : D → Bool
  | .net ns' ls' _ => decide (ns = ns') && decide (ls = ls')
  | _ => false
def postEq : List D → D → Prop := fun ds r => ∀ ns ls nr d, ds = [.net ns ls nr, d] → r = .bl (eqB ns ls d)
theorem mt_eq (F : Fm K C "__eq__" "Net.__eq__" ["self", "other"] sEqM) (M : Mb mg) (G : Gt mg C) (T : NetT K C) : Mt P w K mg base C 1 "__eq__" ["self", "other"] (SpD K C preEq postEq) := F.mt fun f fd F => by
  refine fnD F scEqM (fun ds ⟨_, _, _, _, e, _⟩ => by rw [e]; rfl) fun cdv A outer s H E hr => ?_
  refine ⟨_, (pss_one (ps_ret (pe_and (pe_callB call_isi (by rfl) M.isinstance (by decide +kernel) (pa_cons (pv 1) (pa_cons (pe_glob (v := .ref C) (by rfl) G.net rfl) pa_nil))) (pe_and (pe_cmpR (op_eqD hr.units) (pe_fld (pv 0) rfl) (pe_fld (pv 1) rfl) (nomark _)) (pe_one (pe_cmpR (op_eqD hr.units) (pe_fld (pv 0) rfl) (pe_fld (pv 1) rfl) (nomark _))))))), fun pot old M H ds hp => ?_⟩
  obtain ⟨ns, ls, nr, d, rfl, hi, ok1, ok2⟩ := hp
  dsimp only [cxOf, Cx.nox, Cx.wish]
  show WS _ _ [.da (.net ns ls nr), .da d] _
  have no : ∀ b : Bool, eqB ns ls d = b → postEq [.net ns ls nr, d] (.bl b) := fun b h ns' ls' nr' d' e => by
    obtain ⟨e1, e2, e3, e4⟩ := net_inj e
    have e5 := (List.cons.inj e4).1
    subst e1 e2 e3 e5
    rw [h]
  refine ws_ret (we_andV ?_)
  repeat (walk_at "w")
  refine vc_isiNet T hi ⟨_, rfl, fun h => ?_, fun h => no _ ?_⟩
  · obtain ⟨ns', ls', nr', rfl⟩ : ∃ ns' ls' nr', d = .net ns' ls' nr' := by cases d <;> first | exact ⟨_, _, _, rfl⟩ | cases h
    obtain ⟨o1, o2⟩ := ok1
    obtain ⟨o3, o4⟩ := ok2 _ _ _ rfl
    refine we_andV ?_
    repeat (walk_at "w")
    refine we_nodes T.toNetC ?_
    repeat (walk_at "w")
    refine ⟨_, _, _, rfl, we_nodes T.toNetC ?_⟩
    repeat (walk_at "w")
    refine ⟨_, _, _, rfl, v2_eqD (ok_sS (n := 9) fun s hs => name_strOk (o1 s hs)) (ok_sS (n := 9) fun s hs => name_strOk (o3 s hs)) (nob_sS ns) (nob_sS ns') fun b hb => ⟨b, rfl, fun h1 => ?_, fun h1 => no _ ?_⟩⟩
    · repeat (walk_at "w")
      refine we_links T.toNetC ?_
      repeat (walk_at "w")
      refine ⟨_, _, _, rfl, we_links T.toNetC ?_⟩
      repeat (walk_at "w")
      refine ⟨_, _, _, rfl, v2_eqD (ok_dPs (n := 8) fun s hs => ⟨name_strOk (o2 s hs).1, name_strOk (o2 s hs).2⟩) (ok_dPs (n := 8) fun s hs => ⟨name_strOk (o4 s hs).1, name_strOk (o4 s hs).2⟩) (nob_dPs ls) (nob_dPs ls') fun c hc => no _ ?_⟩
      have e := sS_inj.mp (D.tup.inj (hb.mp h1))
      show (decide (ns = ns') && decide (ls = ls')) = c
      rw [decide_eq_true e, Bool.true_and, Bool.eq_iff_iff, decide_eq_true_eq, hc]
      exact ⟨fun z => by rw [z], fun z => dPs_inj.mp (D.tup.inj z)⟩
    · show (decide (ns = ns') && decide (ls = ls')) = false
      have e : ¬ ns = ns' := fun z => by
        rw [hb.mpr (by rw [z])] at h1
        cases h1
      rw [decide_eq_false e]
      rfl
  · cases d with
    | net _ _ _ => cases h
    | _ => rfl
end
end K11

/-! K11X: pairs of targets with own lists; comprehensions that change an object of one's own; own results dropped or written at once. -/
namespace K11
open PySem PySem.Spec PyProof.Rows L2

section
variable {B : Bs} {Γ : Ctx} {R : D → Prop} {te ta tb tc td ty tv : TE} {tt tu : TT} {P : Po} {t u : TS}
/-- a value that is data, or a new list -/
def NewOk (B : Bs) (M : Addr → Prop) (H H' : Hp) (v : V) : Ent → Prop
  | .da d => Rep B.W (cut M H') v d
  | .ow l => ∃ p xs, v = .ref p ∧ H p = none ∧ H' p = some (.lst xs) ∧ Reps B.W (cut (addM M p) H') xs l
  | _ => False
def WF (B : Bs) (te : TE) (Γ : Ctx) (R : Ent → Prop) : Prop :=
  ∀ M σ H, Stt B M H σ Γ → ∀ Q : VK, (∀ v H' e, Stt B M H' σ Γ → Fx B.W.pot M H H' → NewOk B M H H' v e → R e → Q v H') → te σ H Q
theorem wf_da {R : Ent → Prop} (h : WE B te Γ fun d => R (.da d)) : WF B te Γ R := fun M σ H S Q q => h M σ H S Q fun v H' d S' x r hr => q v H' (.da d) S' x r hr
theorem wf_ow {R : Ent → Prop} (h : WO B te Γ fun d => R (.ow d)) : WF B te Γ R := fun M σ H S Q q => h M σ H S Q fun p xs H' l S' x hp hq r hr => q _ H' (.ow l) S' x ⟨p, xs, rfl, hp, hq, r⟩ hr
/-- the new value is taken into one's own -/
theorem NewOk.take {M : Addr → Prop} {H H' : Hp} {σ : L2.St} {v : V} {e : Ent} (S : Stt B M H σ Γ) (S' : Stt B M H' σ Γ) (x : Fx B.W.pot M H H') (n : NewOk B M H H' v e) :
    ∃ M', Stt B M' H' σ Γ ∧ (∀ m, M m → M' m) ∧ (∀ m, M' m → M m ∨ H m = none) ∧ Same (cut M H) (cut M' H') ∧ EntOk B M' H' (some v) e ∧ (∀ p, e.own = true → v = .ref p → ¬ M p ∧ M' p) ∧ (e.own = true ∨ ∃ d, e = .da d) := by
  cases e with
  | da d => exact ⟨M, S', fun _ h => h, fun _ h => .inl h, x.cut, ⟨v, rfl, n⟩, fun p h => (nomatch h), .inr ⟨d, rfl⟩⟩
  | ow l =>
    obtain ⟨p, xs, ev, hp, hq, r⟩ := n
    subst ev
    obtain ⟨S2, o⟩ := S.own S' x hp hq
    exact ⟨addM M p, S2, fun _ h => .inl h, fun m h => h.elim .inl fun e => .inr (e ▸ hp), cut_gain hp x.ext, ⟨p, xs, rfl, o, hq, r⟩, fun p' _ e => by cases e; exact ⟨S.notM hp, .inr rfl⟩, .inl rfl⟩
  | _ => exact n.elim
theorem EntOk.grow {M M' : Addr → Prop} {H H' : Hp} {ov : Option V} (sub : ∀ m, M m → M' m) (own : ∀ m, M m → m ≠ B.W.pot → H' m = H m) (s : Same (cut M H) (cut M' H')) : ∀ {e : Ent}, EntOk B M H ov e → EntOk B M' H' ov e
  | .no, _ => trivial
  | .da _, ⟨v, e, r⟩ => ⟨v, e, r.mono s⟩
  | .ow _, ⟨p, xs, e, o, h, r⟩ => ⟨p, xs, e, ⟨sub p o.m, o.np, o.h0, o.m0⟩, (own p o.m o.np).trans h, r.mono s⟩
  | .owK _, ⟨p, xs, e, o, h, r⟩ => ⟨p, xs, e, ⟨sub p o.m, o.np, o.h0, o.m0⟩, (own p o.m o.np).trans h, r.mono s⟩
  | .owT _, ⟨p, e, o, h⟩ => ⟨p, e, ⟨sub p o.m, o.np, o.h0, o.m0⟩, (own p o.m o.np).trans h⟩
  | .ins _ _, ⟨p, dx, xs, e, o, h, r⟩ => ⟨p, dx, xs, e, ⟨sub p o.m, o.np, o.h0, o.m0⟩, (own p o.m o.np).trans h, r.mono s⟩
/-- two values, then both are kept -/
theorem pair2 {R : Ent → Ent → Prop} (h : WF B ta Γ fun e1 => WF B tb Γ fun e2 => R e1 e2) : ∀ M σ H, Stt B M H σ Γ → ∀ Q : List V → Hp → Prop,
    (∀ M' v w H' e1 e2, Stt B M' H' σ Γ → Same (cut M H) (cut M' H') → EntOk B M' H' (some v) e1 → EntOk B M' H' (some w) e2 → (∀ p, e1.own = true → v = .ref p → ¬ M p) → (∀ p, e2.own = true → w = .ref p → ¬ M p) → (∀ p, e1.own = true → e2.own = true → v = .ref p → w = .ref p → False) → R e1 e2 → Q [v, w] H') →
    tCons ta (tCons tb tNil) σ H Q := fun M σ H S Q q => h M σ H S _ fun v H1 e1 S1 x1 n1 h1 => by
  obtain ⟨M1, T1, sub1, new1, s1, k1, f1, _⟩ := n1.take S S1 x1
  refine h1 M1 σ H1 T1 _ fun w H2 e2 S2 x2 n2 hr => ?_
  obtain ⟨M2, T2, sub2, new2, s2, k2, f2, _⟩ := n2.take T1 S2 x2
  refine q M2 v w H2 e1 e2 T2 (s1.trans s2) (k1.grow sub2 x2.own s2) k2 (fun p a b => (f1 p a b).1) (fun p a b z => (f2 p a b).1 (sub1 p z)) (fun p a b c d => (f2 p b d).1 (f1 p a c).2) hr
theorem put2 {M : Addr → Prop} {H : Hp} {σ : L2.St} {i j : Nat} {v w : V} {e1 e2 : Ent} (S : Stt B M H σ Γ) (k1 : EntOk B M H (some v) e1) (k2 : EntOk B M H (some w) e2)
    (a1 : ∀ p, e1.own = true → v = .ref p → ∀ (j : Nat) f, Γ[j]? = some f → f.own = true → σ[j]? = some (some (.ref p)) → False) (a2 : ∀ p, e2.own = true → w = .ref p → ∀ (j : Nat) f, Γ[j]? = some f → f.own = true → σ[j]? = some (some (.ref p)) → False)
    (ne : ∀ p, e1.own = true → e2.own = true → v = .ref p → w = .ref p → False) : Stt B M H ((σ.set i (some v)).set j (some w)) ((Γ.set i e1).set j e2) := by
  have S1 := S.put (i := i) (v := some v) (e := e1) k1 fun ho p ev => by cases ev; exact a1 p ho rfl
  refine S1.put (i := j) (v := some w) (e := e2) k2 fun ho p ev k f hk hf hs => ?_
  cases ev
  rcases getE_set hk with ⟨z1, z2, z3⟩ | ⟨z1, z2⟩
  · subst z1 z2
    rw [List.getElem?_set_self (by rw [S.len]; exact z3)] at hs
    exact ne p hf ho (Option.some.inj (Option.some.inj hs)) rfl
  · rw [List.getElem?_set_ne z1] at hs
    exact a2 p ho rfl k f z2 hf hs
theorem ws_par2 {i j : Nat} (h : WF B ta Γ fun e1 => WF B tb Γ fun e2 => P.nx ((Γ.set i e1).set j e2)) : WS B (tPar i j (tCons ta (tCons tb tNil))) Γ P := fun M σ H S E e =>
  pair2 h M σ H S _ fun M' v w H' e1 e2 S' s k1 k2 f1 f2 ne q => ⟨v, w, rfl, e.nx M' _ H' _ (put2 S' k1 k2 (fun p a b => S.apart (f1 p a b)) (fun p a b => S.apart (f2 p a b)) ne) s q⟩
theorem ws_tup2 {i j : Nat} (h : WF B ta Γ fun e1 => WF B tb Γ fun e2 => P.nx ((Γ.set i e1).set j e2)) : WS B (tAsg (tTup (tCons ta (tCons tb tNil))) (gTup B.W.K 2 (gCons (gName i) (gCons (gName j) gNil)))) Γ P := fun M σ H S E e => by
  show tCons ta (tCons tb tNil) σ H (fun xs H1 => xs.length ≤ sizeLine ∧ ∀ p, H1 p = none → gTup B.W.K 2 (gCons (gName i) (gCons (gName j) gNil)) (.ref p) σ (upd H1 p (.tup xs)) E.nx)
  refine pair2 h M σ H S _ fun M' v w H' e1 e2 S' s k1 k2 f1 f2 ne q => ⟨by show 2 ≤ sizeLine; decide, fun p hp => ?_⟩
  have S2 := S'.alloc (o := .tup [v, w]) hp
  have x2 : Fx B.W.pot M' H' (upd H' p (.tup [v, w])) := S'.new_ hp
  refine ⟨p, [v, w], rfl, .of upd_same, rfl, v, [w], rfl, w, [], rfl, rfl, ?_⟩
  exact e.nx M' _ _ _ (put2 S2 (k1.grow (fun _ h => h) x2.own x2.cut) (k2.grow (fun _ h => h) x2.own x2.cut) (fun p a b => S.apart (f1 p a b)) (fun p a b => S.apart (f2 p a b)) ne) (s.trans x2.cut) q

/-! ## expressions that change what is one's own -/
def WX (B : Bs) (te : TE) (Γ : Ctx) (N : D → Ctx → Prop) : Prop :=
  ∀ M σ H, Stt B M H σ Γ → ∀ Q : VK, (∀ v H' d Γ', Stt B M H' σ Γ' → Ext M H H' → (∀ m, M m → m ≠ B.W.pot → (∀ (j : Nat) f, Γ[j]? = some f → f.own = true → σ[j]? = some (some (.ref m)) → False) → H' m = H m) →
    (∀ (j : Nat) f, Γ'[j]? = some f → f.own = true → ∃ g, Γ[j]? = some g ∧ g.own = true) → Rep B.W (cut M H') v d → N d Γ' → Q v H') → te σ H Q
/-- own.pop(i) -/
theorem wx_popAt {i : Nat} {l : List D} (h : Γ[i]? = some (.ow l)) {N : D → Ctx → Prop} (k : WE B te Γ fun d => ∃ n : Nat, d = .int n ∧ n < l.length ∧ l.length ≤ 5000 ∧ ∀ y, l[n]? = some y → N y (Γ.set i (.ow (l.eraseIdx n)))) :
    WX B (tBM B.W.K "list" rPopAt (tVar i) (tCons te tNil)) Γ N := fun M σ H S Q q => by
  obtain ⟨p, xs, e1, o, h1, r⟩ := S.ent i _ h
  refine ⟨_, join_some e1, .inl ⟨rfl, _, .of h1⟩, k M σ H S _ fun v H1 d S1 x rd ⟨n, ed, hn, hl, hN⟩ => ?_⟩
  subst ed
  have h2 := (x.own p o.m o.np).trans h1
  have rx := r.mono x.cut
  have hx : n < xs.length := by rw [r.length]; exact hn
  obtain ⟨y, hy, ry⟩ := rx.get (List.getElem?_eq_getElem hx)
  obtain ⟨S2, s2⟩ := S1.mut (o := .lst (xs.eraseIdx n)) (e' := .ow (l.eraseIdx n)) h rfl (join_some e1) o ⟨p, _, rfl, o, upd_same, (rx.eraseIdx n).mono (cut_upd o.m)⟩
  refine ⟨p, xs, n, n, _, rfl, by rw [rd.int_inv], h2, by omega, by have := r.length; omega, (ixN_seq (by unfold ixN; rw [if_pos (by omega), if_pos (by omega)]; rfl)).1, List.getElem?_eq_getElem hx, ?_⟩
  refine q _ _ y _ S2 (fun b u nb z => ?_) (fun m hm nm na => ?_) (fun j f hj hf => ?_) (ry.mono s2) (hN y hy)
  · have ne : b ≠ p := fun e => nb (e ▸ o.m)
    rw [upd_ne ne]
    exact x.ext b u nb z
  · have ne : m ≠ p := fun e => na i _ h rfl (by rw [e]; exact join_some e1)
    rw [upd_ne ne]
    exact x.own m hm nm
  · rcases getE_set hj with ⟨z1, z2, z3⟩ | ⟨z1, z2⟩
    · subst z1; exact ⟨_, h, rfl⟩
    · exact ⟨f, z2, hf⟩

/-- return [.. for name in ..], the element changing what is one's own; I by the turn, the context and the list -/
theorem ws_retLcX {wi : TI} {iv : Nat} (h : WI B wi Γ fun ds => ds.length ≤ 5000 ∧ ∃ I : Nat → Ctx → List D → Prop, I 0 (wipeC Γ [iv]) [] ∧
    (∀ i d Γ1 acc, ds[i]? = some d → I i Γ1 acc → WX B te (Γ1.set iv (.da d)) fun y Γ3 => I (i + 1) (wipeC Γ3 [iv]) (acc ++ [y])) ∧ ∀ Γ1 acc, I ds.length Γ1 acc → P.ro acc) :
    WS B (tRet (tLc wi (gName iv) tYes te [iv])) Γ P := by
  intro M σ H S E e
  show tLc wi (gName iv) tYes te [iv] σ H E.rt
  refine h M σ H S _ fun J H1 ds G Y S1 x ⟨hl, I, i0, step, done⟩ sr A hA => ?_
  have sA : Fx B.W.pot M H1 (upd H1 A (.lst [])) := S1.new_ hA
  have SA := (S1.alloc (o := .lst []) hA)
  obtain ⟨SO, o⟩ := S1.own SA sA hA upd_same
  have nA : ¬ M A := S1.notM hA
  have na0 := (S1.wipe [iv]).apart nA
  refine lc_it sr.walk (fun i H' => ∃ acc l Γ1, Stt B (addM M A) H' (L2.wipe σ [iv]) Γ1 ∧ Same (cut M H1) (cut (addM M A) H') ∧ H' A = some (.lst acc) ∧ Reps B.W (cut (addM M A) H') acc l ∧ l.length ≤ i ∧ (∀ (j : Nat) f, Γ1[j]? = some f → f.own = true → ∃ g, (wipeC Γ [iv])[j]? = some g ∧ g.own = true) ∧ I i Γ1 l)
    ⟨[], [], _, SO.wipe [iv], cut_gain hA sA.ext, upd_same, .nil, Nat.le_refl _, fun j f a b => ⟨f, a, b⟩, i0⟩ (fun i H' _ ⟨_, _, _, _, s, _⟩ => sr.stays _ _ s) ?_ ?_
  · rintro i v H' H2 hi ⟨acc, l, Γ1, S', s, hD, ra, ll, ow, hI⟩ y
    obtain ⟨hH, d, hd, rd⟩ := sr.gives i _ H' v H2 hi s S'.dom y
    have S2 : Stt B (addM M A) H2 (L2.wipe σ [iv]) Γ1 ∧ Fx B.W.pot (addM M A) H' H2 := by
      rcases hH with rfl | ⟨T, o, hT, rfl⟩
      · exact ⟨S', Fx.refl⟩
      · exact ⟨S'.alloc hT, S'.new_ hT⟩
    obtain ⟨S2, x2⟩ := S2
    have na : ∀ {Γ9 : Ctx} {j : Nat} {f : Ent}, (∀ (j : Nat) f, Γ9[j]? = some f → f.own = true → ∃ g, Γ1[j]? = some g ∧ g.own = true) → Γ9[j]? = some f → f.own = true → (L2.wipe σ [iv])[j]? = some (some (.ref A)) → False := fun hh h1 h2 h3 => by
      obtain ⟨g1, a1, b1⟩ := hh _ _ h1 h2
      obtain ⟨g2, a2, b2⟩ := ow _ g1 a1 b1
      exact na0 _ g2 a2 b2 h3
    have wq : L2.wipe ((L2.wipe σ [iv]).set iv (some v)) [iv] = L2.wipe σ [iv] := by rw [wipe_set (by simp), wipe_wipe]
    have S3 := S2.putD (i := iv) rd
    show L2.wipe ((L2.wipe σ [iv]).set iv (some v)) [iv] = L2.wipe σ [iv] ∧ _
    refine ⟨wq, ?_⟩
    show te _ H2 _
    refine step i d Γ1 l hd hI _ _ H2 S3 _ fun w H4 y4 Γ4 S4 e4 k4 o4 r4 h4 => ?_
    have o4' : ∀ (j : Nat) f, Γ4[j]? = some f → f.own = true → j ≠ iv ∧ ∃ g, Γ1[j]? = some g ∧ g.own = true := fun j f a b => by
      obtain ⟨g, hg, hgo⟩ := o4 j f a b
      rcases getE_set hg with ⟨z1, z2, z3⟩ | ⟨z1, z2⟩
      · subst z2; cases hgo
      · exact ⟨Ne.symm z1, g, z2, hgo⟩
    have e5 : Ext (addM M A) H' H4 := x2.ext.trans e4
    have hD4 : H4 A = some (.lst acc) := by
      rw [k4 A (.inr rfl) o.np fun j f a b c => ?_, x2.own A (.inr rfl) o.np]
      · exact hD
      · rcases getE_set a with ⟨z1, z2, z3⟩ | ⟨z1, z2⟩
        · subst z2; cases b
        · rw [List.getElem?_set_ne z1] at c
          exact na (fun j f a b => ⟨f, a, b⟩) z2 b c
    have sm : Same (cut (addM M A) H4) (cut (addM M A) (upd H4 A (.lst (acc ++ [w])))) := cut_upd (.inr rfl)
    have S6 := S4.wipe [iv]
    rw [wq] at S6
    have ow6 : ∀ (j : Nat) f, (wipeC Γ4 [iv])[j]? = some f → f.own = true → ∃ g, Γ1[j]? = some g ∧ g.own = true := fun j f a b => by
      rcases getE_set (show (Γ4.set iv .no)[j]? = some f from a) with ⟨z1, z2, z3⟩ | ⟨z1, z2⟩
      · subst z2; cases b
      · exact (o4' j f z2 b).2
    refine ⟨acc, hD4, by rw [ra.length]; exact Nat.lt_of_le_of_lt (show l.length ≤ 5000 by omega) (by decide), acc ++ [w], l ++ [y4], wipeC Γ4 [iv], ?_⟩
    refine ⟨S6.touch (.inr rfl) o.np o.h0 (fun j f a b c => na ow6 a b c), (s.trans e5.cut).trans sm, upd_same, ((ra.mono e5.cut).app (.one r4)).mono sm, by rw [List.length_append]; exact Nat.succ_le_succ ll, fun j f a b => ?_, h4⟩
    obtain ⟨g1, a1, b1⟩ := ow6 j f a b
    exact ow j g1 a1 b1
  · rintro H' ⟨acc, l, Γ1, S', s, hD, ra, ll, ow, hI⟩
    exact e.ro _ _ H' _ A acc l S' o hD ra (done Γ1 l hI)

/-! ## own results, written at once and dropped -/
theorem ws_clearO {R : List D → Prop} (h : WO B te Γ R) (q : P.nx Γ) : WS B (tDrop (tBM0 B.W.K "list" rClear te)) Γ P := fun M σ H S E e => by
  show te σ H _
  refine h M σ H S _ fun p xs H' l S' x hp hq r hr => ⟨.inl ⟨rfl, _, .of hq⟩, p, xs, rfl, rfl, hq, ?_⟩
  obtain ⟨S2, o⟩ := S.own S' x hp hq
  exact e.nx _ σ _ Γ (S2.touch (o := .lst []) (.inr rfl) o.np o.h0 (S.apart (S.notM hp))) ((cut_gain hp x.ext).trans (cut_upd (.inr rfl))) q
theorem ws_appendO {R : List D → Prop} (h : WO B te Γ fun l => l.length ≤ 5000 ∧ WE B tv Γ fun _ => P.nx Γ) : WS B (tDrop (tBM B.W.K "list" rAppend te (tCons tv tNil))) Γ P := fun M σ H S E e => by
  show te σ H _
  refine h M σ H S _ fun p xs H' l S' x hp hq r ⟨hl, k⟩ => ⟨.inl ⟨rfl, _, .of hq⟩, ?_⟩
  obtain ⟨S2, o⟩ := S.own S' x hp hq
  refine k _ σ H' S2 _ fun v H2 d S3 x3 r3 q => ⟨p, xs, v, rfl, rfl, (x3.own p o.m o.np).trans hq, by rw [r.length]; exact Nat.lt_of_le_of_lt hl (by decide), ?_⟩
  exact e.nx _ σ _ Γ (S3.touch (o := .lst (xs ++ [v])) (.inr rfl) o.np o.h0 (S.apart (S.notM hp))) (((cut_gain hp x.ext).trans x3.cut).trans (cut_upd (.inr rfl))) q
end
end K11

/-! K11Y: _law_mixed, _law_named, _law_link. -/
namespace K11
open PySem PySem.Spec PyProof.Rows L2

section
variable {X : Cx} {K : PySem.W.Frag}
theorem pg_tupK {es : List Expr} {k : Nat} {t : TGs} {n : Nat} {pos : Pos} (hK : X.K = K) (hc : X.calm = true) (h : PGs X es t)
    (hn : (assignEach es X.env).length = n := by rfl) (hst : (assignEach es X.env).findIdx? (·.1) = none := by rfl) : PG X (.Tuple es k pos) (gTup K n t) := hK ▸ pg_tup hc h hn hst
theorem ix_listK (hK : X.K = K) : IxR X (rIxL K) := hK ▸ ix_list
theorem ix_tupK (hK : X.K = K) : IxR X (rIxT K) := hK ▸ ix_tup
theorem op_in_seqK (hK : X.K = K) : OpR X (compareOp .In) (rIn K false) := hK ▸ op_in_seq
theorem op_notIn_seqK (hK : X.K = K) : OpR X (compareOp .NotIn) (rIn K true) := hK ▸ op_notIn_seq
theorem op_inDK (hK : X.K = K) (hu : X.A.units + 65 < cLine) : OpR X (compareOp .In) (rInD K) := hK ▸ op_inD hu
theorem op_notInDK (hK : X.K = K) (hu : X.A.units + 65 < cLine) : OpR X (compareOp .NotIn) (rNotInD K) := hK ▸ op_notInD hu
theorem op_eqDK (hK : X.K = K) (hu : X.A.units + 64 < cLine) : OpR X (compareOp .Eq) (rEqD K) := hK ▸ op_eqD hu
theorem op_neDK (hK : X.K = K) (hu : X.A.units + 64 < cLine) : OpR X (compareOp .NotEq) (rNeD K) := hK ▸ op_neD hu
theorem pe_bmK {o e : Expr} {es : List Expr} {to : TE} {t : TA} {name : Str} {apos cpos : Pos} {T id : String} {r : V → List V → Hp → VK → Prop} (hK : X.K = K) (pa : PlainAttrs T) (slot : Slot T name id) (hty : typeOf (.builtin id) = pure (.type "method_descriptor")) (hm : MtM X id r) (ho : PE X o to) (ha : PA X (e :: es) t)
    (hbase : attributeBase o name X.env (eval o X.env) = eval o X.env := by rfl)
    (hfew : ((backTo cpos (starEach (e :: es) X.env)).all (fun x => !x.1) && (backToKw cpos (keywordEach [] X.env)).all (fun x => x.1.isSome)
      && decide ((e :: es).length + ([] : List Keyword).length + (if ([] : List Keyword).isEmpty then 0 else 1) < 30)) = true := by rfl)
    (hline : (apos.endLine == cpos.line) = true := by rfl) (hst : starEach (e :: es) X.env = (false, eval e X.env) :: starEach es X.env := by rfl) (hpl : (backTo cpos (starEach es X.env)).any (·.1) = false := by rfl) : PE X (.Call (.Attribute o name apos) (e :: es) [] cpos) (tBM K T r to t) := hK ▸ pe_bm pa slot hty hm ho ha (hbase := hbase) (hfew := hfew) (hline := hline) (hs := hst) (hplain := hpl)
end
theorem hu65 {A : Around} {k : Nat} (hr : Room k A) : A.units + 65 < cLine := by have := hr.un; omega

local macro_rules | `(tactic| walk_at "w") => `(tactic| (first
  | (with_reducible refine ws_seq ?_)
  | (with_reducible refine ws_ret ?_)
  | (with_reducible refine ws_if ?_)
  | (with_reducible refine ws_asg ?_)
  | (with_reducible refine ws_break ?_)
  | (with_reducible refine ws_drop ?_)
  | (with_reducible refine we_var (by with_unfolding_all rfl) ?_)
  | (with_reducible refine we_int ?_)
  | (with_reducible refine we_str ?_)
  | (with_reducible refine we_bl ?_)
  | (with_reducible refine we_non ?_)
  | (with_reducible refine we_ty ?_)
  | (with_reducible refine we_cls ?_)
  | (with_reducible refine wa_cons ?_)
  | (with_reducible refine wa_nil ?_)
  | (with_reducible refine we_cb ?_)
  | (with_reducible refine vc_lenL ?_)
  | (with_reducible refine vc_lenT ?_)
  | (with_reducible refine v2_B0 ?_)
  | (with_reducible refine v2_I0 ?_)
  | (with_reducible refine we_call ?_)
  | (with_reducible refine we_op ?_)
  | (with_reducible refine we_tup ?_)
  | (with_reducible refine we_if ?_)
  | (with_reducible refine we_chain ?_)
  | (with_reducible refine wt_test ?_)
  | (with_reducible refine wt_B ?_)
  | (with_reducible refine wt_not ?_)
  | (with_reducible refine wt_or ?_)
  | (with_reducible refine wt_and ?_)))

section
variable {P : Program} {w : World} {K : PySem.W.Frag} {mg : Str → Option Value} {base : Heap} {C : Addr}
abbrev CDraw (P : Program) (w : World) (K : PySem.W.Frag) (mg : Str → Option Value) (base : Heap) (C : Addr) : Prop := Cl P w K mg base 1 "_law_draw" ["_law_pot_here", "_law_size"] (SpD K C preDraw postDraw)
abbrev CPick (P : Program) (w : World) (K : PySem.W.Frag) (mg : Str → Option Value) (base : Heap) (C : Addr) : Prop := Cl P w K mg base 2 "_law_pick" ["_law_pot_here", "_law_some"] (SpD K C prePick postPick)

abbrev sMixed : Stmt := top 35
abbrev nMixed : List Str := ["_law_pot_here", "_law_some", "_law_pack", "_law_turn"]
theorem scMixed : FnScope nMixed ["_law_pot_here", "_law_some"] (defScope sMixed) := ⟨rfl, rfl, rfl, by decide +kernel, rfl, by decide +kernel, by decide +kernel⟩
def preMixed : List D → Prop := fun ds => ∃ l, ds = [.pot, .lst l] ∧ l.length ≤ 1000
def postMixed : List D → List D → Prop := fun ds r => ∀ l, ds = [.pot, .lst l] → r.Perm l
theorem intsD_inv {n i : Nat} {d : D} (h : (intsD 0 n)[i]? = some d) : d = .int (i : Nat) ∧ i < n := by
  have hi : i < n := by
    have := (List.getElem?_eq_some_iff.mp h).1
    rwa [intsD_len] at this
  rw [intsD_get hi] at h
  refine ⟨?_, hi⟩
  cases h
  rw [Int.zero_add]
theorem perm_erase {α : Type} {l : List α} {n : Nat} {y : α} (h : l[n]? = some y) : (y :: l.eraseIdx n).Perm l := by
  induction l generalizing n with
  | nil => cases h
  | cons a l ih =>
    cases n with
    | zero => cases h; exact List.Perm.refl _
    | succ n =>
      rw [List.eraseIdx_cons_succ]
      exact (List.Perm.swap a y _).trans ((ih (by simpa using h)).cons a)
theorem cl_mixed (F : Fd K mg "_law_mixed" ["_law_pot_here", "_law_some"] sMixed) (M : Mb mg) (c_draw : CDraw P w K mg base C) : Cl P w K mg base 2 "_law_mixed" ["_law_pot_here", "_law_some"] (SpO K C preMixed postMixed) := F.cl fun f fd F => by
  refine fnO F scMixed (fun ds ⟨_, e, _⟩ => by rw [e]; rfl) fun cdv A outer s H E hr => ?_
  refine ⟨_, (pss_cons (ps_set (i := 2) scMixed.nd rfl (by first | exact Or.inl rfl | exact Or.inr rfl) (pe_callTy call_list2 (by rfl) M.list (by decide +kernel) (pa_cons (pv 1) pa_nil)))
    (pss_one (ps_ret (pe_lc (own := [("_law_turn", 3)]) (by rfl) scMixed.nd (pi_range1 (by rfl) M.range (pa_cons (pe_callB call_len2 (by rfl) M.len PySem.boot_len (pa_cons (pv 1) pa_nil)) pa_nil)) (blkOk_by (N := nMixed) (sc := defScope sMixed) (by decide +kernel)) (fun _ _ _ _ _ => (pg_name (i := 3) scMixed.nd rfl (by first | exact Or.inl rfl | exact Or.inr rfl))) (fun _ _ _ _ _ => pts_nil) (fun _ _ _ _ _ => (pe_bmK (K := K) rfl PySem.F.plainAttrs_list PySem.F.slot_list_pop PySem.F.type_list_pop mt_popAt (pv 2) (pa_cons (by exact pcl c_draw (hr.mono (by decide)) (pa_cons (pv 0) (pa_cons (pe_callB (id := "len") (r := rLen K) (call_lenK (K := K) rfl) (by rfl) M.len PySem.boot_len (pa_cons (pv 2) pa_nil)) pa_nil))) pa_nil))))))), fun pot old M H ds hp => ?_⟩
  obtain ⟨l, rfl, hl⟩ := hp
  dsimp only [cxOf, Cx.nox, Cx.wish]
  show WS _ _ [.da .pot, .da (.lst l), .no, .no] _
  refine ws_seq (ws_own (wo_cb ?_))
  repeat (walk_at "w")
  refine vco_listL ?_
  show WS _ _ [.da .pot, .da (.lst l), .ow l, .no] _
  refine ws_retLcX (wi_range1 ?_)
  repeat (walk_at "w")
  refine ⟨_, rfl, by omega, by omega, by rw [intsD_len]; omega, fun i Γ acc => ∃ rest, Γ = [.da .pot, .da (.lst l), .ow rest, .no] ∧ (acc ++ rest).Perm l ∧ rest.length + i = l.length, ⟨l, rfl, List.Perm.refl _, rfl⟩, ?_, ?_⟩
  · rintro i d Γ1 acc hd ⟨rest, rfl, hp, hn⟩
    obtain ⟨rfl, hi⟩ := intsD_inv hd
    have hi' : i < l.length := by simpa using hi
    show WX _ _ [.da .pot, .da (.lst l), .ow rest, .da (.int (i : Nat))] _
    refine wx_popAt (i := 2) rfl (we_call (wa_cons (we_var rfl (wa_cons (seeE (i := 2) rfl (.ow _) ?_)))))
    show WE _ _ [.da .pot, .da (.lst l), .da (.lst rest), .da (.int (i : Nat))] _
    repeat (walk_at "w")
    refine ⟨rfl, ?_⟩
    repeat (walk_at "w")
    refine ⟨⟨_, rfl, by omega, by omega⟩, fun d hd => ?_⟩
    obtain ⟨j, rfl, j0, j1⟩ := hd _ rfl
    refine ⟨j.toNat, by rw [Int.toNat_of_nonneg j0], by omega, by omega, fun y hy => ⟨rest.eraseIdx j.toNat, rfl, ?_, ?_⟩⟩
    · rw [List.append_assoc, List.singleton_append]
      exact ((perm_erase hy).append_left acc).trans hp
    · rw [List.length_eraseIdx_of_lt (by omega)]
      omega
  · rintro Γ1 acc ⟨rest, rfl, hp, hn⟩ l' e
    cases e
    rw [intsD_len] at hn
    have hn' : rest.length + l.length = l.length := by simpa using hn
    have : rest = [] := List.length_eq_zero_iff.mp (by omega)
    subst this
    rwa [List.append_nil] at hp

/-! ### names -/
def nameS (s : Str) : Prop := nameOk s = true ∧ s.length ≤ 5
theorem app_cps (a b : Str) : (a ++ b).cps.toList = a.cps.toList ++ b.cps.toList := by
  show (a.cps ++ b.cps).toList = _
  exact Array.toList_append
theorem len_cps (a : Str) : a.length = a.cps.toList.length := (Array.length_toList).symm
theorem nameOk_iff {s : Str} : nameOk s = true ↔ 1 ≤ s.length ∧ s.length ≤ 8 ∧ ∀ c ∈ s.cps.toList, c ∈ letS.cps.toList := by
  unfold nameOk
  rw [Bool.and_eq_true, Bool.and_eq_true, List.all_eq_true]
  simp only [decide_eq_true_eq]
  exact ⟨fun h => ⟨h.1.1, h.1.2, h.2⟩, fun h => ⟨⟨h.1, h.2.1⟩, h.2.2⟩⟩
theorem join_signs (cs : List Nat) : (Txt.join "" (cs.map fun c => (⟨#[c]⟩ : Str))).cps.toList = cs := by
  have e1 := TL.tl_join ("" : Str) (cs.map fun c => (⟨#[c]⟩ : Str))
  rw [← TL.join_eq] at e1
  refine e1.trans ?_
  rw [List.map_map]
  show TL.joinL [] (cs.map fun c => [c]) = cs
  clear e1
  induction cs with
  | nil => rfl
  | cons a cs ih =>
    cases cs with
    | nil => rfl
    | cons b cs =>
      show [a] ++ ([] ++ TL.joinL [] ((b :: cs).map fun c => [c])) = _
      rw [ih]
      rfl
def letC (t : Nat) : Nat := letS.cps.toList.getD t 97
theorem letC_at {t : Nat} (h : t < 26) : letS.cps.toList[t]? = some (letC t) := by
  unfold letC
  rw [List.getElem?_eq_getElem (show t < letS.cps.toList.length from h), List.getD_eq_getElem?_getD, List.getElem?_eq_getElem (show t < letS.cps.toList.length from h)]
  rfl
theorem letC_in {t : Nat} (h : t < 26) : letC t ∈ letS.cps.toList := List.mem_of_getElem? (letC_at h)
theorem letC_inj {t u : Nat} (h : t < 26) (h' : u < 26) (e : letC t = letC u) : t = u := by
  have nd : letS.cps.toList.Nodup := by decide +kernel
  have e1 := letC_at h
  have e2 := letC_at h'
  rw [e] at e1
  obtain ⟨a1, a2⟩ := List.getElem?_eq_some_iff.mp e1
  obtain ⟨b1, b2⟩ := List.getElem?_eq_some_iff.mp e2
  exact (List.getElem_inj nd).mp (a2.trans b2.symm)
def spare (lb : Str) (t : Nat) : Str := lb ++ ⟨#[letC (t % 26)]⟩ ++ ⟨#[letC (t / 26)]⟩
theorem spare_cps (lb : Str) (t : Nat) : (spare lb t).cps.toList = lb.cps.toList ++ [letC (t % 26), letC (t / 26)] := by
  unfold spare
  rw [app_cps, app_cps, List.append_assoc]
  rfl
theorem spare_inj {lb : Str} {t u : Nat} (ht : t < 100) (hu : u < 100) (e : spare lb t = spare lb u) : t = u := by
  have e1 := congrArg (fun s : Str => s.cps.toList) e
  simp only [spare_cps] at e1
  have e2 := List.append_cancel_left e1
  injection e2 with a b
  injection b with b _
  have h1 := letC_inj (by omega) (by omega) a
  have h2 := letC_inj (by omega) (by omega) b
  omega
theorem spare_ok {lb : Str} {t : Nat} (h : nameOk lb = true) (hl : lb.length ≤ 3) (ht : t < 100) : nameS (spare lb t) := by
  rw [nameOk_iff] at h
  have e : (spare lb t).length = lb.length + 2 := by rw [len_cps, spare_cps, List.length_append, ← len_cps]; rfl
  refine ⟨nameOk_iff.mpr ⟨by omega, by omega, fun c hc => ?_⟩, by omega⟩
  rw [spare_cps, List.mem_append] at hc
  rcases hc with hc | hc
  · exact h.2.2 c hc
  · rcases List.mem_cons.mp hc with e | hc
    · rw [e]; exact letC_in (by omega)
    · rw [List.mem_singleton.mp hc]; exact letC_in (by omega)
theorem spare_left {lb : Str} {a b : List Str} (h : a.length + b.length < 100) : ((List.range 100).map (spare lb)).filter (fun x => !decide (x ∈ a) && !decide (x ∈ b)) ≠ [] := fun z => by
  have nd : ((List.range 100).map (spare lb)).Nodup := by
    exact List.pairwise_map.mpr (List.nodup_range.imp_of_mem fun ha hb hne e => hne (spare_inj (List.mem_range.mp ha) (List.mem_range.mp hb) e))
  have sub : ∀ x ∈ (List.range 100).map (spare lb), x ∈ a ++ b := fun x hx => by
    rw [List.filter_eq_nil_iff] at z
    have := z x hx
    rw [List.mem_append]
    by_cases h1 : x ∈ a
    · exact .inl h1
    · by_cases h2 : x ∈ b
      · exact .inr h2
      · simp [h1, h2] at this
  have := nodup_len nd sub
  simp at this
  omega
def preNamed : List D → Prop := fun ds => ∃ (n : Nat) (tk : List Str), ds = [.pot, .int n, .lst (sS tk)] ∧ n ≤ 20 ∧ tk.length ≤ 60
def postNamed : List D → List D → Prop := fun ds r => ∀ (n : Nat) tk, ds = [.pot, .int n, .lst (sS tk)] → ∃ l : List Str, r = sS l ∧ l.length = n ∧ l.Nodup ∧ ∀ s ∈ l, nameS s ∧ s ∉ tk

abbrev sNamed : Stmt := top 36
abbrev nNamed : List Str := ["_law_pot_here", "_law_size", "_law_taken", "_law_k", "_law_letters", "_law_found", "_law_label", "_law_spare", "_law_turn", "_law_near_here"]
theorem scNamed : FnScope nNamed ["_law_pot_here", "_law_size", "_law_taken"] (defScope sNamed) := ⟨rfl, rfl, rfl, by decide +kernel, rfl, by decide +kernel, by decide +kernel⟩
theorem cl_named (F : Fd K mg "_law_named" ["_law_pot_here", "_law_size", "_law_taken"] sNamed) (M : Mb mg) (c_draw : CDraw P w K mg base C) : Cl P w K mg base 2 "_law_named" ["_law_pot_here", "_law_size", "_law_taken"] (SpO K C preNamed postNamed) := F.cl fun f fd F => by
  refine fnO F scNamed (fun ds ⟨_, _, e, _⟩ => by rw [e]; rfl) fun cdv A outer s H E hr => ?_
  refine ⟨_, (pss_cons (ps_asg (pe_tup (pa_cons pe_str (pa_cons (pe_lst pa_nil) pa_nil))) (pg_tup (by rfl) (pgs_cons (pg_name (i := 4) scNamed.nd rfl (by first | exact Or.inl rfl | exact Or.inr rfl)) (pgs_cons (pg_name (i := 5) scNamed.nd rfl (by first | exact Or.inl rfl | exact Or.inr rfl)) pgs_nil))))
    (pss_cons (ps_for PassesOwn.never rfl (pi_range1 (by rfl) M.range (pa_cons (pv 1) pa_nil)) (pg_name (i := 3) scNamed.nd rfl (by first | exact Or.inl rfl | exact Or.inr rfl)) (pss_cons (ps_set (i := 6) scNamed.nd rfl (by first | exact Or.inl rfl | exact Or.inr rfl) (pe_join pe_str (pe_lc (own := [("_law_turn", 8)]) (by rfl) scNamed.nd (pi_range1 (by rfl) M.range (pa_cons (pe_op op_add pe_int (pcl c_draw (hr.mono (by decide)) (pa_cons (pv 0) (pa_cons pe_int pa_nil)))) pa_nil)) (blkOk_by (N := nNamed) (sc := defScope sNamed) (by decide +kernel)) (fun _ _ _ _ _ => (pg_name (i := 8) scNamed.nd rfl (by first | exact Or.inl rfl | exact Or.inr rfl))) (fun _ _ _ _ _ => pts_nil) (fun _ _ _ _ _ => (pe_ix ix_str (pv 4) (by exact pcl c_draw (hr.mono (by decide)) (pa_cons (pv 0) (pa_cons pe_int pa_nil))) (fun _ _ => rfl))))))
    (pss_cons (ps_if (PW.pt (pw_or (pt_cmpR op_in_seq (pv 6) (pv 5) (by rfl)) (pw_or1 (pt_cmpR op_in_seq (pv 6) (pv 2) (by rfl))))) (pss_cons (ps_setLc (i := 7) (own := [("_law_turn", 8)]) (by rfl) scNamed.nd rfl rfl (sw_true rfl rfl rfl (by decide +kernel)) (pi_range1 (by rfl) M.range (pa_cons pe_int pa_nil)) (blkOk_by (N := nNamed) (sc := defScope sNamed) (by decide +kernel)) (fun _ _ _ _ _ => (pg_name (i := 8) scNamed.nd rfl (by first | exact Or.inl rfl | exact Or.inr rfl))) (fun _ _ _ _ _ => pts_nil) (fun _ _ _ _ _ => (pe_op op_add_str (pe_op op_add_str (pv 6) (pe_ix ix_str (pv 4) (pe_op op_mod (pv 8) pe_int) (fun _ _ => rfl))) (pe_ix ix_str (pv 4) (pe_op op_fdiv (pv 8) pe_int) (fun _ _ => rfl)))))
    (pss_one (ps_set (i := 6) scNamed.nd rfl (by first | exact Or.inl rfl | exact Or.inr rfl) (pe_ix ix_list (pe_lc (own := [("_law_near_here", 9)]) (by rfl) scNamed.nd (pi_list (pv 7)) (blkOk_by (N := nNamed) (sc := defScope sNamed) (by decide +kernel)) (fun _ _ _ _ _ => (pg_name (i := 9) scNamed.nd rfl (by first | exact Or.inl rfl | exact Or.inr rfl))) (fun _ _ _ _ _ => (pts_one (PW.pt (pw_and (pt_cmpR (op_notIn_seqK (K := K) rfl) (pv 9) (pv 5) (by rfl)) (pw_and1 (pt_cmpR (op_notIn_seqK (K := K) rfl) (pv 9) (pv 2) (by rfl))))))) (fun _ _ _ _ _ => (pv 9))) pe_int (fun _ _ => rfl))))) pss_nil)
    (pss_one (ps_expr (pe_bm PySem.F.plainAttrs_list PySem.F.slot_list_append PySem.F.type_list_append mt_append (pv 5) (pa_cons (pv 6) pa_nil)))))))
    (pss_one (ps_ret (pv 5))))), fun pot old M H ds hp => ?_⟩
  obtain ⟨n, tk, rfl, hn, ht⟩ := hp
  dsimp only [cxOf, Cx.nox, Cx.wish]
  show WS _ _ [.da .pot, .da (.int n), .da (.lst (sS tk)), .no, .no, .no, .no, .no, .no, .no] _
  refine ws_seq (ws_tup2 (wf_da (we_str (wf_ow (wo_lst (wa_nil ⟨by decide, ?_⟩))))))
  show WS _ _ [.da .pot, .da (.int n), .da (.lst (sS tk)), .no, .da (.str letS), .ow [], .no, .no, .no, .no] _
  refine ws_seq (ws_for (wi_range1 ?_))
  repeat (walk_at "w")
  refine ⟨_, rfl, by omega, by omega, fun i Γ1 => ∃ l e3 e6 e7, Γ1 = [.da .pot, .da (.int n), .da (.lst (sS tk)), e3, .da (.str letS), .ow (sS l), e6, e7, .no, .no] ∧ l.length = i ∧ l.Nodup ∧ ∀ s ∈ l, nameS s ∧ s ∉ tk, ⟨[], _, _, _, rfl, rfl, List.nodup_nil, fun _ h => nomatch h⟩, ?_, ?_⟩
  · rintro i d Γ1 hd ⟨l, e3, e6, e7, rfl, hl, nd, ok⟩
    obtain ⟨rfl, hi⟩ := intsD_inv hd
    have hi' : i < n := by simpa using hi
    refine wg_name ?_
    show WS _ _ [.da .pot, .da (.int n), .da (.lst (sS tk)), .da (.int (i : Nat)), .da (.str letS), .ow (sS l), e6, e7, .no, .no] _
    refine ws_seq (ws_asg (we_join rfl ?_))
    repeat (walk_at "w")
    refine ⟨_, rfl, WO.we (wo_lc (go_name (by simp)) (wi_range1 ?_))⟩
    repeat (walk_at "w")
    refine ⟨⟨3, rfl, by omega, by omega⟩, fun d hd => ?_⟩
    obtain ⟨j, rfl, j0, j1⟩ := hd _ rfl
    refine v2_I0 ?_
    repeat (walk_at "w")
    refine ⟨_, rfl, by omega, by omega, by rw [intsD_len]; omega, fun i acc => ∃ cs : List Nat, acc = sS (cs.map fun c => (⟨#[c]⟩ : Str)) ∧ cs.length = i ∧ ∀ c ∈ cs, c ∈ letS.cps.toList, ⟨[], rfl, rfl, fun _ h => nomatch h⟩, ?_, ?_⟩
    · rintro i' d acc hd ⟨cs, rfl, hcs, hin⟩
      refine wg_name (wt_yes ⟨fun _ => ?_, fun h => nomatch h⟩)
      show WE _ _ [.da .pot, .da (.int n), .da (.lst (sS tk)), .da (.int (i : Nat)), .da (.str letS), .ow (sS l), e6, e7, .da d, .no] _
      repeat (walk_at "w")
      refine ⟨⟨26, rfl, by omega, by omega⟩, fun d hd => ?_⟩
      obtain ⟨k, rfl, k0, k1⟩ := hd _ rfl
      refine v2_ixS (c := letC k.toNat) (by decide) ?_ ?_
      · unfold atI ixN
        have h26 : letS.cps.toList.length = 26 := by decide +kernel
        rw [if_pos k0, h26, if_pos (by omega)]
        exact letC_at (by omega)
      · refine ⟨cs ++ [letC k.toNat], ?_, by rw [List.length_append, hcs]; rfl, fun c hc => ?_⟩
        · simp [sS]
        · rcases List.mem_append.mp hc with h | h
          · exact hin c h
          · rw [List.mem_singleton.mp h]; exact letC_in (by omega)
    rintro acc ⟨cs, rfl, hcs, hin⟩
    rw [intsD_len] at hcs
    refine ⟨cs.map fun c => (⟨#[c]⟩ : Str), rfl, ?_, ?_⟩
    · have e : ((cs.map fun c => (⟨#[c]⟩ : Str)).map (·.length)).sum ≤ cs.length := by
        clear hcs hin
        induction cs with
        | nil => exact Nat.le_refl _
        | cons a cs ih => simp only [List.map_cons, List.sum_cons, List.length_cons]; show 1 + _ ≤ _; omega
      have : ("" : Str).length = 0 := rfl
      rw [this]
      omega
    generalize hlb : Txt.join "" (cs.map fun c => (⟨#[c]⟩ : Str)) = lb
    have lbc : lb.cps.toList = cs := by rw [← hlb]; exact join_signs cs
    have lbl : lb.length = cs.length := by rw [len_cps, lbc]
    have lok : nameOk lb = true := nameOk_iff.mpr ⟨by omega, by omega, fun c hc => hin c (by rwa [lbc] at hc)⟩
    have lb3 : lb.length ≤ 3 := by omega
    refine wg_name ?_
    show WS _ _ [.da .pot, .da (.int n), .da (.lst (sS tk)), .da (.int (i : Nat)), .da (.str letS), .ow (sS l), .da (.str lb), e7, .no, .no] _
    -- the end of a turn: a fresh name joins
    have fin : ∀ (s : Str) (e7 : Ent), nameS s → s ∉ l → s ∉ tk → WS (bs K C pot old M H) (tDrop (tBM K "list" rAppend (tVar 5) (tCons (tVar 6) tNil))) [.da .pot, .da (.int n), .da (.lst (sS tk)), .da (.int (i : Nat)), .da (.str letS), .ow (sS l), .da (.str s), e7, .no, .no]
        { nx := fun Γ1 => ∃ l e3 e6 e7, Γ1 = [.da .pot, .da (.int n), .da (.lst (sS tk)), e3, .da (.str letS), .ow (sS l), e6, e7, .no, .no] ∧ l.length = i + 1 ∧ l.Nodup ∧ ∀ s ∈ l, nameS s ∧ s ∉ tk } := fun s e7 h1 h2 h3 => by
      refine ws_append (i := 5) rfl ?_
      repeat (walk_at "w")
      refine ⟨by simp [sS]; omega, l ++ [s], _, _, _, by rw [show sS l ++ [D.str s] = sS (l ++ [s]) by simp [sS]]; rfl, by rw [List.length_append, hl]; rfl, List.nodup_append.mpr ⟨nd, by simp, fun a ha b hb => by rw [List.mem_singleton.mp hb]; exact fun e => h2 (e ▸ ha)⟩, fun x hx => ?_⟩
      rcases List.mem_append.mp hx with h | h
      · exact ok x h
      · rw [List.mem_singleton.mp h]; exact ⟨h1, h3⟩
    refine ws_seq (ws_if (WT.imp (R := fun b => b = false → lb ∉ l ∧ lb ∉ tk) ?_ fun b hb => ⟨fun _ => ?_, fun h => ?_⟩))
    · refine wt_or (seeT (i := 5) rfl (.ow _) ?_)
      show WT _ _ [.da .pot, .da (.int n), .da (.lst (sS tk)), .da (.int (i : Nat)), .da (.str letS), .da (.lst (sS l)), .da (.str lb), e7, .no, .no] _
      repeat (walk_at "w")
      refine v2_inL ⟨_, rfl, fun h z => (nomatch z), fun h => ?_⟩
      have h1 : lb ∉ l := by simpa using h
      repeat (walk_at "w")
      exact v2_inL ⟨_, rfl, fun h => ⟨h1, by simpa using h⟩⟩
    · refine ws_seq (ws_asg (WO.we (wo_lc (go_name (by simp)) (wi_range1 ?_))))
      repeat (walk_at "w")
      refine ⟨100, rfl, by decide, by decide, by rw [intsD_len]; decide, fun i acc => acc = sS ((List.range i).map (spare lb)), rfl, ?_, ?_⟩
      · rintro t d acc hd rfl
        obtain ⟨rfl, ht⟩ := intsD_inv hd
        have ht' : t < 100 := ht
        refine wg_name (wt_yes ⟨fun _ => ?_, fun h => nomatch h⟩)
        show WE _ _ [.da .pot, .da (.int n), .da (.lst (sS tk)), .da (.int (i : Nat)), .da (.str letS), .ow (sS l), .da (.str lb), e7, .da (.int (t : Nat)), .no] _
        have h26 : letS.cps.toList.length = 26 := by decide +kernel
        have at_ : ∀ u : Nat, u < 26 → atI letS.cps.toList (u : Int) = some (letC u) := fun u hu => by
          unfold atI ixN
          rw [if_pos (by omega), h26, if_pos (by omega)]
          exact letC_at hu
        refine we_op ?_
        refine we_op ?_
        repeat (walk_at "w")
        refine v2_I (show (0 : Int) < 26 by decide) ?_
        refine v2_ixS (c := letC (t % 26)) (by decide) (at_ (t % 26) (Nat.mod_lt _ (by decide))) ?_
        refine v2_addS (by show lb.length + 1 ≤ 10000; omega) ?_
        repeat (walk_at "w")
        refine v2_I ⟨by decide, by decide⟩ ?_
        refine v2_ixS (c := letC (t / 26)) (by decide) (at_ (t / 26) (by omega)) ?_
        refine v2_addS (by show (lb ++ ⟨#[letC (t % 26)]⟩ : Str).length + 1 ≤ 10000; rw [len_cps, app_cps, List.length_append, ← len_cps]; show lb.length + 1 + 1 ≤ 10000; omega) ?_
        show _ = sS ((List.range (t + 1)).map (spare lb))
        rw [List.range_succ, List.map_append]
        simp [sS, spare]
      rintro acc rfl
      refine wg_name ?_
      rw [intsD_len]
      show WS _ _ [.da .pot, .da (.int n), .da (.lst (sS tk)), .da (.int (i : Nat)), .da (.str letS), .ow (sS l), .da (.str lb), .da (.lst (sS ((List.range 100).map (spare lb)))), .no, .no] _
      refine ws_asg (we_op (WO.we (seeO (i := 5) rfl (.ow _) (wo_lc (go_name (by simp)) (wi_list ?_)))))
      show WE _ _ [.da .pot, .da (.int n), .da (.lst (sS tk)), .da (.int (i : Nat)), .da (.str letS), .da (.lst (sS l)), .da (.str lb), .da (.lst (sS ((List.range 100).map (spare lb)))), .no, .no] _
      repeat (walk_at "w")
      generalize hsp : (List.range 100).map (spare lb) = sp
      have spok : ∀ x ∈ sp, nameS x := fun x hx => by
        rw [← hsp] at hx
        obtain ⟨t, ht, e⟩ := List.mem_map.mp hx
        rw [← e]
        exact spare_ok lok lb3 (List.mem_range.mp ht)
      have spl : sp.length = 100 := by rw [← hsp]; simp
      have left := spare_left (lb := lb) (a := l) (b := tk) (by omega)
      rw [hsp] at left
      refine ⟨_, rfl, by simp [sS]; omega, fun i acc => acc = sS ((sp.take i).filter fun x => !decide (x ∈ l) && !decide (x ∈ tk)), rfl, ?_, ?_⟩
      · rintro j d acc hd rfl
        obtain ⟨x, rfl, hx⟩ := get_sS hd
        refine wg_name ?_
        show WT _ _ [.da .pot, .da (.int n), .da (.lst (sS tk)), .da (.int (i : Nat)), .da (.str letS), .da (.lst (sS l)), .da (.str lb), .da (.lst (sS sp)), .no, .da (.str x)] _
        have nxt : ∀ b : Bool, (!decide (x ∈ l) && !decide (x ∈ tk)) = b → sS ((sp.take (j + 1)).filter fun x => !decide (x ∈ l) && !decide (x ∈ tk)) = sS ((sp.take j).filter fun x => !decide (x ∈ l) && !decide (x ∈ tk)) ++ (if b then [D.str x] else []) := fun b hb => by
          rw [List.take_add_one, hx, List.filter_append]
          show sS (_ ++ List.filter _ [x]) = _
          simp only [List.filter_cons, List.filter_nil, hb]
          cases b <;> simp [sS]
        repeat (walk_at "w")
        refine v2_inL ⟨_, rfl, fun h => ?_, fun h => ⟨fun z => (nomatch z), fun _ => ?_⟩⟩
        · have h1 : (!decide (x ∈ l)) = true := h
          repeat (walk_at "w")
          refine v2_inL ⟨_, rfl, fun h2 => ?_, fun h2 => ?_⟩
          · repeat (walk_at "w")
            exact (nxt true (by rw [h1]; exact h2)).symm
          · exact ((nxt false (by rw [h1]; exact h2)).trans (List.append_nil _)).symm
        · have h1 : (!decide (x ∈ l)) = false := h
          exact ((nxt false (by rw [h1]; rfl)).trans (List.append_nil _)).symm
      rintro acc rfl
      rw [show (sS sp).length = sp.length by simp [sS], List.take_length]
      refine ⟨flat_sS _, ?_⟩
      repeat (walk_at "w")
      refine v2_ixLn (by decide) (by have := List.length_pos_iff.mpr left; rw [show ∀ L : List Str, (sS L).length = L.length from fun L => List.length_map ..]; omega) fun d hd => ?_
      obtain ⟨x, rfl, hx⟩ := get_sS hd
      have mx := List.mem_filter.mp (List.mem_of_getElem? hx)
      have mx2 : x ∉ l ∧ x ∉ tk := by simpa using mx.2
      exact wg_name ((fin x _ (spok x mx.1) mx2.1 mx2.2).imp ⟨fun _ h => h, fun _ h => h.elim, fun _ h => h.elim, fun _ h => h.elim, fun _ h => h.elim⟩)
    · obtain ⟨h1, h2⟩ := hb h
      exact ws_next ((fin lb e7 ⟨lok, by omega⟩ h1 h2).imp ⟨fun _ h => h, fun _ h => h.elim, fun _ h => h.elim, fun _ h => h.elim, fun _ h => h.elim⟩)
  · rintro Γ1 ⟨l, e3, e6, e7, rfl, hl, nd, ok⟩
    rw [intsD_len] at hl
    refine ws_retV (i := 5) rfl fun n' tk' e => ⟨l, rfl, ?_, nd, fun s hs => ?_⟩
    · have e1 := List.cons.inj (List.cons.inj e).2
      have e2 := D.int.inj e1.1
      simp at hl
      omega
    · have e1 := List.cons.inj (List.cons.inj (List.cons.inj e).2).2
      have e2 := sS_inj.mp (D.lst.inj e1.1)
      subst e2
      exact ok s hs
end
end K11

/-! K11Z: _law_link, _law_flat, _law_near, _law_piece, _law_pieces, _law_turned, _law_is_part. -/
namespace K11
open PySem PySem.Spec PyProof.Rows L2

local macro_rules | `(tactic| walk_at "w") => `(tactic| (first
  | (with_reducible refine ws_seq ?_)
  | (with_reducible refine ws_ret ?_)
  | (with_reducible refine ws_if ?_)
  | (with_reducible refine ws_asg ?_)
  | (with_reducible refine ws_break ?_)
  | (with_reducible refine ws_drop ?_)
  | (with_reducible refine we_var (by with_unfolding_all rfl) ?_)
  | (with_reducible refine we_int ?_)
  | (with_reducible refine we_str ?_)
  | (with_reducible refine we_bl ?_)
  | (with_reducible refine we_non ?_)
  | (with_reducible refine we_ty ?_)
  | (with_reducible refine we_cls ?_)
  | (with_reducible refine wa_cons ?_)
  | (with_reducible refine wa_nil ?_)
  | (with_reducible refine we_cb ?_)
  | (with_reducible refine vc_lenL ?_)
  | (with_reducible refine vc_lenT ?_)
  | (with_reducible refine v2_B0 ?_)
  | (with_reducible refine v2_I0 ?_)
  | (with_reducible refine we_call ?_)
  | (with_reducible refine we_op ?_)
  | (with_reducible refine we_tup ?_)
  | (with_reducible refine we_if ?_)
  | (with_reducible refine we_chain ?_)
  | (with_reducible refine wt_test ?_)
  | (with_reducible refine wt_B ?_)
  | (with_reducible refine wt_not ?_)
  | (with_reducible refine wt_or ?_)
  | (with_reducible refine wt_and ?_)))

/-! ### the mathematics -/
theorem sS_len (l : List Str) : (sS l).length = l.length := List.length_map ..
theorem dPs_len (l : List Lk) : (dPs l).length = l.length := List.length_map ..
theorem perm_map {α β : Type} {f : α → β} {r m : List β} (h : r.Perm m) : ∀ {l : List α}, m = l.map f → ∃ q : List α, r = q.map f ∧ q.Perm l := by
  induction h with
  | nil => intro l e; cases l with
    | nil => exact ⟨[], rfl, List.Perm.refl _⟩
    | cons a l => cases e
  | cons x h ih => intro l e; cases l with
    | nil => cases e
    | cons a l =>
      have e1 := List.cons.inj e
      obtain ⟨q, h1, h2⟩ := ih e1.2
      exact ⟨a :: q, by rw [h1, e1.1]; rfl, h2.cons a⟩
  | swap x y t => intro l e; match l, e with
    | a :: b :: l, e =>
      have e1 := List.cons.inj e
      have e2 := List.cons.inj e1.2
      exact ⟨b :: a :: l, by rw [e1.1, e2.1, e2.2]; rfl, List.Perm.swap ..⟩
  | trans _ _ ih1 ih2 => intro l e
                         obtain ⟨q, h1, h2⟩ := ih2 e
                         obtain ⟨q', h3, h4⟩ := ih1 h1
                         exact ⟨q', h3, h4.trans h2⟩
theorem ordP_flip (p : Lk) : ordP (p.2, p.1) = ordP p := by
  obtain ⟨a, b⟩ := p
  unfold ordP
  cases h1 : leS a b with
  | true =>
    cases h2 : leS b a with
    | true => have e := leS_anti h1 h2; subst e; simp [h1]
    | false => simp [h1, h2]
  | false =>
    have h2 : leS b a = true := by have := leS_total a b; rw [h1] at this; simpa using this
    simp [h1, h2]
theorem raw_perm (ps : List Lk) (n : Str) (ne : ∀ p ∈ ps, p.1 ≠ p.2) : ((ps.filter fun p => decide (p.1 = n)).map (·.2) ++ (ps.filter fun p => decide (p.2 = n)).map (·.1)).Perm (raw ps n) := by
  induction ps with
  | nil => exact List.Perm.refl _
  | cons p ps ih =>
    have ih := ih fun q hq => ne q (List.mem_cons_of_mem _ hq)
    have np := ne p List.mem_cons_self
    show List.Perm _ ((if p.1 = n then [p.2] else if p.2 = n then [p.1] else []) ++ raw ps n)
    by_cases h1 : p.1 = n
    · have h2 : ¬ p.2 = n := fun e => np (h1.trans e.symm)
      simp only [List.filter_cons, h1, h2, decide_true, decide_false, if_true, List.map_cons, List.cons_append, List.nil_append, Bool.false_eq_true, if_false]
      exact ih.cons _
    · by_cases h2 : p.2 = n
      · simp only [List.filter_cons, h1, h2, decide_true, decide_false, if_true, List.map_cons, List.cons_append, List.nil_append, Bool.false_eq_true, if_false]
        exact (List.perm_middle).trans (ih.cons _)
      · simp only [List.filter_cons, h1, h2, decide_false, List.nil_append, Bool.false_eq_true, if_false]
        exact ih
theorem raw_mem {ps : List Lk} {n x : Str} : x ∈ raw ps n ↔ (n, x) ∈ ps ∨ ((x, n) ∈ ps ∧ x ≠ n) := by
  unfold raw
  rw [List.mem_flatMap]
  constructor
  · rintro ⟨p, hp, hx⟩
    by_cases h1 : p.1 = n
    · rw [if_pos h1, List.mem_singleton] at hx
      subst h1 hx
      exact .inl hp
    · rw [if_neg h1] at hx
      by_cases h2 : p.2 = n
      · rw [if_pos h2, List.mem_singleton] at hx
        subst h2 hx
        exact .inr ⟨hp, h1⟩
      · rw [if_neg h2] at hx; cases hx
  · rintro (h | ⟨h, ne⟩)
    · exact ⟨_, h, by simp⟩
    · exact ⟨_, h, by rw [if_neg ne, if_pos rfl]; simp⟩
theorem raw_nodup {ps : List Lk} {n : Str} (nd : ps.Nodup) (h : ∀ p ∈ ps, ordP p = p ∧ p.1 ≠ p.2) : (raw ps n).Nodup := by
  induction ps with
  | nil => exact List.nodup_nil
  | cons p ps ih =>
    rw [List.nodup_cons] at nd
    have ih := ih nd.2 fun q hq => h q (List.mem_cons_of_mem _ hq)
    obtain ⟨o, ne⟩ := h p List.mem_cons_self
    have no : ∀ q ∈ ps, q ≠ p ∧ (q.2, q.1) ≠ p := fun q hq => by
      refine ⟨fun e => nd.1 (e ▸ hq), fun e => ?_⟩
      have oq := (h q (List.mem_cons_of_mem _ hq)).1
      rw [← ordP_flip, e, o] at oq
      exact nd.1 (oq ▸ hq)
    show ((if p.1 = n then [p.2] else if p.2 = n then [p.1] else []) ++ raw ps n).Nodup
    have key : ∀ x, (p = (n, x) ∨ p = (x, n)) → x ∉ raw ps n := fun x hx hm => by
      rcases raw_mem.mp hm with z | ⟨z, _⟩
      · rcases hx with e | e
        · exact (no _ z).1 e.symm
        · exact (no _ z).2 e.symm
      · rcases hx with e | e
        · exact (no _ z).2 e.symm
        · exact (no _ z).1 e.symm
    by_cases h1 : p.1 = n
    · rw [if_pos h1]
      exact List.nodup_cons.mpr ⟨key p.2 (.inl (by rw [← h1])), ih⟩
    · rw [if_neg h1]
      by_cases h2 : p.2 = n
      · rw [if_pos h2]
        exact List.nodup_cons.mpr ⟨key p.1 (.inr (by rw [← h2])), ih⟩
      · rw [if_neg h2]; exact ih
open Classical in
noncomputable def pcS (ks : List Str) (nb : Str → List Str) (s : Str) : List Str := srtS (ks.filter fun x => decide (Rch nb s x))
theorem pc_uniq {ks f : List Str} {nb : Str → List Str} {s : Str} (ndk : ks.Nodup) (nd : f.Nodup) (h : ∀ x, x ∈ f ↔ Rch nb s x) (sub : ∀ x ∈ f, x ∈ ks) : srtS f = pcS ks nb s := by
  unfold pcS
  refine srtS_uniq ((srtS_perm f).trans ?_) (srtS_pw f)
  refine (List.perm_ext_iff_of_nodup nd (ndk.filter _)).mpr fun x => ?_
  rw [List.mem_filter, h x]
  simp only [decide_eq_true_eq]
  exact ⟨fun r => ⟨sub x ((h x).mpr r), r⟩, fun r => r.2⟩
/-- a model's pairs -/
structure Prs (ks : List Str) (ps : List Lk) : Prop where
  kl : ks.length ≤ 60
  kn : ks.Nodup
  ko : ∀ s ∈ ks, nameOk s = true
  pl : ps.length ≤ 120
  pn : ps.Nodup
  po : ∀ p ∈ ps, ordP p = p ∧ p.1 ≠ p.2 ∧ p.1 ∈ ks ∧ p.2 ∈ ks
theorem Prs.nb {ks : List Str} {ps : List Lk} (W : Prs ks ps) {x y : Str} (h : y ∈ raw ps x) : x ∈ ks ∧ y ∈ ks := by
  rcases raw_mem.mp h with z | ⟨z, _⟩
  · exact ⟨(W.po _ z).2.2.1, (W.po _ z).2.2.2⟩
  · exact ⟨(W.po _ z).2.2.2, (W.po _ z).2.2.1⟩
theorem Prs.rch {ks : List Str} {ps : List Lk} (W : Prs ks ps) {s x : Str} (hs : s ∈ ks) (h : Rch (raw ps) s x) : x ∈ ks := by
  induction h with
  | refl => exact hs
  | step _ hy _ => exact (W.nb hy).2
theorem Prs.nodup {ks : List Str} {ps : List Lk} (W : Prs ks ps) (n : Str) : (raw ps n).Nodup := raw_nodup W.pn fun p hp => ⟨(W.po p hp).1, (W.po p hp).2.1⟩
/-- one step of the search -/
theorem Jn.turn {ks nb' : List Str} {nb : Str → List Str} {s here : Str} {f : List Str} {k : Nat} (J : Jn ks nb s f (f.drop k) fun _ => False) (hk : f[k]? = some here) (nd : nb'.Nodup) (hm : ∀ x, x ∈ nb' ↔ x ∈ nb here) (sub : ∀ x ∈ nb here, x ∈ ks) :
    Jn ks nb s (f ++ nb'.filter fun x => !decide (x ∈ f)) ((f ++ nb'.filter fun x => !decide (x ∈ f)).drop (k + 1)) fun _ => False := by
  have hlt : k < f.length := (List.getElem?_eq_some_iff.mp hk).1
  have mh : here ∈ f := List.mem_of_getElem? hk
  have ed : f.drop k = here :: f.drop (k + 1) := by
    rw [List.drop_eq_getElem_cons hlt, (List.getElem?_eq_some_iff.mp hk).2]
  have e2 : (f ++ nb'.filter fun x => !decide (x ∈ f)).drop (k + 1) = f.drop (k + 1) ++ nb'.filter fun x => !decide (x ∈ f) := List.drop_append_of_le_length (by omega)
  have mN : ∀ x, x ∈ (nb'.filter fun x => !decide (x ∈ f)) ↔ x ∈ nb here ∧ x ∉ f := fun x => by
    rw [List.mem_filter, hm x]; simp
  rw [e2]
  refine ⟨?_, fun x hx => ?_, fun x hx => ?_, fun x hx => ?_, fun x hx => ?_, List.mem_append_left _ J.st⟩
  · refine List.nodup_append.mpr ⟨J.nd, nd.filter _, fun a ha b hb e => ?_⟩
    exact ((mN b).mp hb).2 (e ▸ ha)
  · rcases List.mem_append.mp hx with h | h
    · exact J.sub x h
    · exact sub x ((mN x).mp h).1
  · rcases List.mem_append.mp hx with h | h
    · exact J.rch x h
    · exact .step (J.rch here mh) ((mN x).mp h).1
  · rcases List.mem_append.mp hx with h | h
    · exact List.mem_append_left _ (List.mem_of_mem_drop h)
    · exact List.mem_append_right _ h
  · rcases List.mem_append.mp hx with h | h
    · rcases J.cl x h with z | z | z
      · rw [ed] at z
        rcases List.mem_cons.mp z with e | z
        · subst e
          refine .inr (.inr fun y hy => ?_)
          by_cases hyf : y ∈ f
          · exact List.mem_append_left _ hyf
          · exact List.mem_append_right _ ((mN y).mpr ⟨hy, hyf⟩)
        · exact .inl (List.mem_append_left _ z)
      · exact z.elim
      · exact .inr (.inr fun y hy => List.mem_append_left _ (z y hy))
    · exact .inl (List.mem_append_right _ h)
section
variable {P : Program} {w : World} {K : PySem.W.Frag} {mg : Str → Option Value} {base : Heap} {C : Addr}

abbrev nLink : List Str := ["_law_this", "_law_mate"]
theorem scLink : FnScope nLink ["_law_this", "_law_mate"] (defScope sLink) := ⟨rfl, rfl, rfl, by decide +kernel, rfl, by decide +kernel, by decide +kernel⟩
abbrev CLink (P : Program) (w : World) (K : PySem.W.Frag) (mg : Str → Option Value) (base : Heap) (C : Addr) : Prop := Cl P w K mg base 1 "_law_link" ["_law_this", "_law_mate"] (SpD K C (fun ds => ∃ a b : Str, ds = [.str a, .str b]) fun ds r => ∀ a b : Str, ds = [.str a, .str b] → r = dP (ordP (a, b)))
theorem cl_link (F : Fd K mg "_law_link" ["_law_this", "_law_mate"] sLink) : CLink P w K mg base C := F.cl fun f fd F => by
  refine fnD F scLink (fun ds ⟨_, _, e⟩ => by rw [e]; rfl) fun cdv A outer s H E hr => ?_
  refine ⟨_, (pss_one (ps_ret (pe_ifExp (pt_cmpR op_lt_str (pv 0) (pv 1) (nomark _)) (pe_tup (pa_cons (pv 0) (pa_cons (pv 1) pa_nil))) (pe_tup (pa_cons (pv 1) (pa_cons (pv 0) pa_nil)))))), fun pot old M H ds hp => ?_⟩
  obtain ⟨a, b, rfl⟩ := hp
  try dsimp only [cxOf, Cx.nox, Cx.wish]
  show WS _ _ [.da (.str a), .da (.str b)] _
  have fin : ∀ q : Lk, q = ordP (a, b) → ∀ a' b' : Str, [D.str a, D.str b] = [.str a', .str b'] → dP q = dP (ordP (a', b')) := fun q hq a' b' e => by
    have e1 := List.cons.inj e
    have e2 := D.str.inj e1.1
    have e3 := D.str.inj (List.cons.inj e1.2).1
    subst e2 e3
    rw [hq]
  repeat (walk_at "w")
  refine v2_ltS ⟨_, rfl, fun h => ?_, fun h => ?_⟩
  · repeat (walk_at "w")
    refine ⟨by show (2 : Nat) ≤ 1000; decide, fin (a, b) ?_⟩
    have h' := of_decide_eq_true h
    unfold ordP
    rw [if_pos (leS_iff.mpr (List.lt_asymm h'))]
  · repeat (walk_at "w")
    refine ⟨by show (2 : Nat) ≤ 1000; decide, fin (b, a) ?_⟩
    have h' := of_decide_eq_false h
    have hb : leS b a = true := leS_iff.mpr h'
    rw [← ordP_flip]
    unfold ordP
    rw [if_pos hb]

abbrev sFlat : Stmt := top 41
abbrev nFlat : List Str := ["_law_lists", "_law_found", "_law_some"]
theorem scFlat : FnScope nFlat ["_law_lists"] (defScope sFlat) := ⟨rfl, rfl, rfl, by decide +kernel, rfl, by decide +kernel, by decide +kernel⟩
def flatL (l : List (List Str)) : List Str := l.flatten
def preFlat : List D → Prop := fun ds => ∃ l : List (List Str), ds = [.lst (l.map fun x => .lst (sS x))] ∧ l.length ≤ 1000 ∧ l.flatten.length ≤ 1000
theorem cl_flat (F : Fd K mg "_law_flat" ["_law_lists"] sFlat) : Cl P w K mg base 1 "_law_flat" ["_law_lists"] (SpO K C preFlat fun ds r => ∀ l : List (List Str), ds = [.lst (l.map fun x => .lst (sS x))] → r = sS l.flatten) := F.cl fun f fd F => by
  refine fnO F scFlat (fun ds ⟨_, e, _⟩ => by rw [e]; rfl) fun cdv A outer s H E hr => ?_
  refine ⟨_, (pss_cons (ps_set (i := 1) scFlat.nd rfl (by first | exact Or.inl rfl | exact Or.inr rfl) (pe_lst pa_nil))
    (pss_cons (ps_for PassesOwn.never rfl (pi_list (pv 0)) (pg_name (i := 2) scFlat.nd rfl (by first | exact Or.inl rfl | exact Or.inr rfl)) (pss_one (ps_expr (pe_bm PySem.F.plainAttrs_list PySem.F.slot_list_extend PySem.F.type_list_extend mt_extend (pv 1) (pa_cons (pv 2) pa_nil)))))
    (pss_one (ps_ret (pv 1))))), fun pot old M H ds hp => ?_⟩
  obtain ⟨l, rfl, h1, h2⟩ := hp
  dsimp only [cxOf, Cx.nox, Cx.wish]
  show WS _ _ [.da (.lst (l.map fun x => .lst (sS x))), .no, .no] _
  refine ws_seq (ws_own (wo_lst (wa_nil ⟨by decide, ?_⟩)))
  show WS _ _ [.da (.lst (l.map fun x => .lst (sS x))), .ow [], .no] _
  refine ws_seq (ws_for (wi_list ?_))
  repeat (walk_at "w")
  have sub : ∀ i, ((l.take i).flatten).length ≤ l.flatten.length := fun i => by
    have e : l.flatten = (l.take i).flatten ++ (l.drop i).flatten := by rw [← List.flatten_append, List.take_append_drop]
    rw [e, List.length_append]
    omega
  refine ⟨_, rfl, fun i Γ1 => ∃ e2, Γ1 = [.da (.lst (l.map fun x => .lst (sS x))), .ow (sS (l.take i).flatten), e2], ⟨_, rfl⟩, ?_, ?_⟩
  · rintro i d Γ1 hd ⟨e2, rfl⟩
    rw [List.getElem?_map] at hd
    obtain ⟨x, hx, rfl⟩ := Option.map_eq_some_iff.mp hd
    refine wg_name ?_
    show WS _ _ [.da (.lst (l.map fun x => .lst (sS x))), .ow (sS (l.take i).flatten), .da (.lst (sS x))] _
    refine ws_extend (i := 1) rfl ?_
    repeat (walk_at "w")
    have e : (l.take (i + 1)).flatten = (l.take i).flatten ++ x := by rw [List.take_add_one, hx, List.flatten_append]; simp
    have := sub (i + 1)
    rw [e, List.length_append] at this
    refine ⟨_, rfl, by rw [sS_len, sS_len]; omega, .da (.lst (sS x)), ?_⟩
    rw [e, show sS ((l.take i).flatten ++ x) = sS (l.take i).flatten ++ sS x from List.map_append ..]
    rfl
  · rintro Γ1 ⟨e2, rfl⟩
    rw [List.length_map, List.take_length]
    refine ws_retV (i := 1) rfl fun l' e => ?_
    have e1 := D.lst.inj (List.cons.inj e).1
    have : l = l' := by
      clear h1 h2 sub e
      induction l generalizing l' with
      | nil => cases l' with
        | nil => rfl
        | cons _ _ => cases e1
      | cons a l ih => cases l' with
        | nil => cases e1
        | cons b l' =>
          have e2 := List.cons.inj e1
          rw [sS_inj.mp (D.lst.inj e2.1), ih l' e2.2]
    rw [this]

abbrev sNear : Stmt := top 44
abbrev nNear : List Str := ["_law_pairs", "_law_spot", "_law_found", "_law_this", "_law_mate"]
theorem scNear : FnScope nNear ["_law_pairs", "_law_spot"] (defScope sNear) := ⟨rfl, rfl, rfl, by decide +kernel, rfl, by decide +kernel, by decide +kernel⟩
def preNear : List D → Prop := fun ds => ∃ ps s, ds = [.lst (dPs ps), .str s] ∧ ps.length ≤ 120 ∧ ∀ p ∈ ps, p.1 ≠ p.2
def postNear : List D → List D → Prop := fun ds r => ∀ ps s, ds = [.lst (dPs ps), .str s] → r = sS (srtS (raw ps s))
theorem cl_near (F : Fd K mg "_law_near" ["_law_pairs", "_law_spot"] sNear) (M : Mb mg) : Cl P w K mg base 1 "_law_near" ["_law_pairs", "_law_spot"] (SpO K C preNear postNear) := F.cl fun f fd F => by
  refine fnO F scNear (fun ds ⟨_, _, e, _⟩ => by rw [e]; rfl) fun cdv A outer s H E hr => ?_
  refine ⟨_, (pss_cons (ps_setLc (i := 2) (own := [("_law_this", 3), ("_law_mate", 4)]) (by rfl) scNear.nd rfl rfl (sw_true rfl rfl rfl (by decide +kernel)) (pi_list (pv 0)) (blkOk_by (N := nNear) (sc := defScope sNear) (by decide +kernel)) (fun _ _ _ _ _ => (pg_tupK (K := K) (n := 2) rfl (by rfl) (pgs_cons (pg_name (i := 3) scNear.nd rfl (by first | exact Or.inl rfl | exact Or.inr rfl)) (pgs_cons (pg_name (i := 4) scNear.nd rfl (by first | exact Or.inl rfl | exact Or.inr rfl)) pgs_nil)))) (fun _ _ _ _ _ => (pts_one (pt_cmpR op_eq (pv 3) (pv 1) (nomark _)))) (fun _ _ _ _ _ => (pv 4)))
    (pss_one (ps_ret (pe_callB (call_srt rfl) (by rfl) M.sorted (by decide +kernel) (pa_cons (pe_op op_cat (pv 2) (pe_lc (own := [("_law_this", 3), ("_law_mate", 4)]) (by rfl) scNear.nd (pi_list (pv 0)) (blkOk_by (N := nNear) (sc := defScope sNear) (by decide +kernel)) (fun _ _ _ _ _ => (pg_tupK (K := K) (n := 2) rfl (by rfl) (pgs_cons (pg_name (i := 3) scNear.nd rfl (by first | exact Or.inl rfl | exact Or.inr rfl)) (pgs_cons (pg_name (i := 4) scNear.nd rfl (by first | exact Or.inl rfl | exact Or.inr rfl)) pgs_nil)))) (fun _ _ _ _ _ => (pts_one (pt_cmpR op_eq (pv 4) (pv 1) (nomark _)))) (fun _ _ _ _ _ => (pv 3)))) pa_nil))))), fun pot old M H ds hp => ?_⟩
  obtain ⟨ps, n, rfl, pl, ne⟩ := hp
  dsimp only [cxOf, Cx.nox, Cx.wish]
  show WS _ _ [.da (.lst (dPs ps)), .da (.str n), .no, .no, .no] _
  have step : ∀ (g : Lk → Bool) (k : Lk → Str) (i : Nat) (p : Lk), ps[i]? = some p → sS (((ps.take (i + 1)).filter g).map k) = sS (((ps.take i).filter g).map k) ++ (if g p then [D.str (k p)] else []) := fun g k i p hp => by
    rw [List.take_add_one, hp, List.filter_append, List.map_append]
    show sS (_ ++ List.map k (List.filter g [p])) = _
    simp only [List.filter_cons, List.filter_nil]
    cases g p <;> simp [sS]
  refine ws_seq (ws_asg (WO.we (wo_lc (go_tup2 (by simp) (by simp)) (wi_list ?_))))
  repeat (walk_at "w")
  refine ⟨_, rfl, by rw [dPs_len]; omega, fun i acc => acc = sS (((ps.take i).filter fun p => decide (p.1 = n)).map (·.2)), rfl, ?_, ?_⟩
  · rintro i d acc hd rfl
    obtain ⟨p, rfl, hp⟩ := get_dPs hd
    refine wg_tup2 (wg_name (wg_name ?_))
    show WT _ _ [.da (.lst (dPs ps)), .da (.str n), .no, .da (.str p.1), .da (.str p.2)] _
    repeat (walk_at "w")
    refine v2_eqSS ⟨_, rfl, fun h => ?_, fun h => ?_⟩
    · repeat (walk_at "w")
      exact ((step (fun p => decide (p.1 = n)) (·.2) i p hp).trans (by rw [show decide (p.1 = n) = true from h]; rfl)).symm
    · exact ((step (fun p => decide (p.1 = n)) (·.2) i p hp).trans (by rw [show decide (p.1 = n) = false from h]; simp)).symm
  rintro acc rfl
  rw [dPs_len, List.take_length]
  refine wg_name ?_
  generalize hA : (ps.filter fun p => decide (p.1 = n)).map (·.2) = A1
  show WS _ _ [.da (.lst (dPs ps)), .da (.str n), .da (.lst (sS A1)), .no, .no] _
  refine ws_retO (wo_cb (wa_cons (WO.we (wo_op ?_))))
  repeat (walk_at "w")
  refine WO.we (wo_lc (go_tup2 (by simp) (by simp)) (wi_list ?_))
  repeat (walk_at "w")
  refine ⟨_, rfl, by rw [dPs_len]; omega, fun i acc => acc = sS (((ps.take i).filter fun p => decide (p.2 = n)).map (·.1)), rfl, ?_, ?_⟩
  · rintro i d acc hd rfl
    obtain ⟨p, rfl, hp⟩ := get_dPs hd
    refine wg_tup2 (wg_name (wg_name ?_))
    show WT _ _ [.da (.lst (dPs ps)), .da (.str n), .da (.lst (sS A1)), .da (.str p.1), .da (.str p.2)] _
    repeat (walk_at "w")
    refine v2_eqSS ⟨_, rfl, fun h => ?_, fun h => ?_⟩
    · repeat (walk_at "w")
      exact ((step (fun p => decide (p.2 = n)) (·.1) i p hp).trans (by rw [show decide (p.2 = n) = true from h]; rfl)).symm
    · exact ((step (fun p => decide (p.2 = n)) (·.1) i p hp).trans (by rw [show decide (p.2 = n) = false from h]; simp)).symm
  rintro acc rfl
  rw [dPs_len, List.take_length]
  have pm := raw_perm ps n ne
  rw [hA] at pm
  have lq := pm.length_eq
  have rl := raw_len ps n
  rw [List.length_append] at lq
  refine v2o_cat (by rw [sS_len, sS_len]; omega) ?_
  repeat (walk_at "w")
  rw [← show sS (A1 ++ (ps.filter fun p => decide (p.2 = n)).map (·.1)) = sS A1 ++ sS ((ps.filter fun p => decide (p.2 = n)).map (·.1)) from List.map_append ..]
  refine vco_srtS (by rw [List.length_append]; omega) fun ps' s' e => ?_
  have e1 := List.cons.inj e
  have e2 := dPs_inj.mp (D.lst.inj e1.1)
  have e3 := D.str.inj (List.cons.inj e1.2).1
  subst e2 e3
  rw [srtS_uniq ((srtS_perm _).trans pm) (srtS_pw _)]

abbrev sPiece : Stmt := top 45
abbrev nPiece : List Str := ["_law_pairs", "_law_spot", "_law_found", "_law_at", "_law_near_here"]
theorem scPiece : FnScope nPiece ["_law_pairs", "_law_spot"] (defScope sPiece) := ⟨rfl, rfl, rfl, by decide +kernel, rfl, by decide +kernel, by decide +kernel⟩
def prePiece : List D → Prop := fun ds => ∃ ps s ks, ds = [.lst (dPs ps), .str s] ∧ Prs ks ps ∧ s ∈ ks
def postPiece : List D → List D → Prop := fun ds r => ∀ ps s, ds = [.lst (dPs ps), .str s] → ∀ ks, Prs ks ps → s ∈ ks → r = sS (pcS ks (raw ps) s)
theorem cl_piece (F : Fd K mg "_law_piece" ["_law_pairs", "_law_spot"] sPiece) (M : Mb mg) (c_near : Cl P w K mg base 1 "_law_near" ["_law_pairs", "_law_spot"] (SpO K C preNear postNear)) : Cl P w K mg base 2 "_law_piece" ["_law_pairs", "_law_spot"] (SpO K C prePiece postPiece) := F.cl fun f fd F => by
  refine fnO F scPiece (fun ds ⟨_, _, _, e, _⟩ => by rw [e]; rfl) fun cdv A outer s H E hr => ?_
  refine ⟨_, (pss_cons (ps_asg (pe_tup (pa_cons (pe_lst (pa_cons (pv 1) pa_nil)) (pa_cons pe_int pa_nil))) (pg_tup (by rfl) (pgs_cons (pg_name (i := 2) scPiece.nd rfl (by first | exact Or.inl rfl | exact Or.inr rfl)) (pgs_cons (pg_name (i := 3) scPiece.nd rfl (by first | exact Or.inl rfl | exact Or.inr rfl)) pgs_nil))))
    (pss_cons (ps_while PassesOwn.never (pt_cmpR op_lt (pv 3) (pe_callB call_len2 (by rfl) M.len PySem.boot_len (pa_cons (pv 2) pa_nil)) (nomark _)) (pss_cons (ps_set (i := 2) scPiece.nd rfl (by first | exact Or.inl rfl | exact Or.inr rfl) (pe_op op_cat (pv 2) (pe_lc (own := [("_law_near_here", 4)]) (by rfl) scPiece.nd (pi_list (pcl c_near (hr.mono (by decide)) (pa_cons (pv 0) (pa_cons (pe_ix ix_list (pv 2) (pv 3) (fun _ _ => rfl)) pa_nil)))) (blkOk_by (N := nPiece) (sc := defScope sPiece) (by decide +kernel)) (fun _ _ _ _ _ => (pg_name (i := 4) scPiece.nd rfl (by first | exact Or.inl rfl | exact Or.inr rfl))) (fun _ _ _ _ _ => (pts_one (pt_cmpR (op_notIn_seqK (K := K) rfl) (pv 4) (pv 2) (by rfl)))) (fun _ _ _ _ _ => (pv 4)))))
    (pss_one (ps_set (i := 3) scPiece.nd rfl (by first | exact Or.inl rfl | exact Or.inr rfl) (pe_op op_add (pv 3) pe_int)))))
    (pss_one (ps_ret (pe_callB (call_srt rfl) (by rfl) M.sorted (by decide +kernel) (pa_cons (pv 2) pa_nil)))))), fun pot old M H ds hp => ?_⟩
  obtain ⟨ps, s, ks, rfl, W, hs⟩ := hp
  dsimp only [cxOf, Cx.nox, Cx.wish]
  show WS _ _ [.da (.lst (dPs ps)), .da (.str s), .no, .no, .no] _
  refine ws_seq (ws_tup2 (wf_da (WO.we (wo_lst (wa_cons (we_var rfl (wa_nil ⟨by show (1 : Nat) ≤ 1000; decide, wf_da (we_int ?_)⟩)))))))
  show WS _ _ [.da (.lst (dPs ps)), .da (.str s), .da (.lst (sS [s])), .da (.int (0 : Nat)), .no] _
  have k60 := W.kl
  have p120 := W.pl
  have nes : ∀ p ∈ ps, p.1 ≠ p.2 := fun p hp => (W.po p hp).2.1
  refine ws_seq (ws_while (fun m Γ1 => ∃ (f : List Str) (k : Nat), Γ1 = [.da (.lst (dPs ps)), .da (.str s), .da (.lst (sS f)), .da (.int (k : Nat)), .no] ∧ Jn ks (raw ps) s f (f.drop k) (fun _ => False) ∧ k ≤ f.length ∧ m = ks.length - k) (ks.length - 0) ⟨[s], 0, rfl, ?_, by simp, rfl⟩ ?_)
  · exact ⟨by simp, fun x hx => by rw [List.mem_singleton.mp hx]; exact hs, fun x hx => by rw [List.mem_singleton.mp hx]; exact .refl, fun x hx => hx, fun x hx => .inl hx, List.mem_singleton.mpr rfl⟩
  rintro m Γ1 ⟨f, k, rfl, J, hk, rfl⟩
  have fl : f.length ≤ ks.length := nodup_len J.nd J.sub
  repeat (walk_at "w")
  refine ⟨_, rfl, fun h => ?_, fun h => ?_⟩
  · have hlt : k < f.length := by have := of_decide_eq_true h; rw [sS_len] at this; omega
    obtain ⟨here, hh⟩ : ∃ here, f[k]? = some here := ⟨_, List.getElem?_eq_getElem hlt⟩
    have kh : here ∈ ks := J.sub here (List.mem_of_getElem? hh)
    refine ws_seq (ws_asg (WO.we (wo_op (we_var rfl (WO.we (wo_lc (go_name (by simp)) (wi_list (WO.we (wo_call ?_)))))))))
    repeat (walk_at "w")
    refine v2_ixLn (by omega) (by rw [sS_len]; omega) fun d hd => ?_
    obtain ⟨x, rfl, hx⟩ := get_sS hd
    rw [Int.toNat_natCast, hh] at hx
    cases hx
    repeat (walk_at "w")
    refine ⟨⟨ps, here, rfl, p120, nes⟩, fun r hr' => ?_⟩
    have er := hr' ps here rfl
    subst er
    have rl : (srtS (raw ps here)).length ≤ 120 := by rw [srtS_len]; exact Nat.le_trans (raw_len ps here) p120
    refine ⟨_, rfl, by rw [sS_len]; omega, fun i acc => acc = sS (((srtS (raw ps here)).take i).filter fun x => !decide (x ∈ f)), rfl, ?_, ?_⟩
    · rintro i d acc hd rfl
      obtain ⟨x, rfl, hx⟩ := get_sS hd
      refine wg_name ?_
      show WT _ _ [.da (.lst (dPs ps)), .da (.str s), .da (.lst (sS f)), .da (.int (k : Nat)), .da (.str x)] _
      have nxt : ∀ b : Bool, (!decide (x ∈ f)) = b → sS (((srtS (raw ps here)).take (i + 1)).filter fun x => !decide (x ∈ f)) = sS (((srtS (raw ps here)).take i).filter fun x => !decide (x ∈ f)) ++ (if b then [D.str x] else []) := fun b hb => by
        rw [List.take_add_one, hx, List.filter_append]
        show sS (_ ++ List.filter _ [x]) = _
        simp only [List.filter_cons, List.filter_nil, hb]
        cases b <;> simp [sS]
      repeat (walk_at "w")
      refine v2_inL ⟨_, rfl, fun h => ?_, fun h => ?_⟩
      · repeat (walk_at "w")
        exact (nxt true h).symm
      · exact ((nxt false h).trans (List.append_nil _)).symm
    rintro acc rfl
    rw [sS_len, List.take_length]
    have J2 := J.turn hh ((srtS_perm _).nodup_iff.mpr (W.nodup here)) (fun x => (srtS_perm _).mem_iff) fun x hx => (W.nb hx).2
    have fl2 := nodup_len J2.nd J2.sub
    generalize hf2 : f ++ (srtS (raw ps here)).filter (fun x => !decide (x ∈ f)) = f2 at J2 fl2
    refine v2o_cat ?_ ?_
    · rw [sS_len, sS_len]
      have := congrArg List.length hf2
      rw [List.length_append] at this
      omega
    refine wg_name ?_
    rw [← show sS (f ++ (srtS (raw ps here)).filter fun x => !decide (x ∈ f)) = sS f ++ sS ((srtS (raw ps here)).filter fun x => !decide (x ∈ f)) from List.map_append .., hf2]
    show WS _ _ [.da (.lst (dPs ps)), .da (.str s), .da (.lst (sS f2)), .da (.int (k : Nat)), .no] _
    repeat (walk_at "w")
    refine wg_name ⟨ks.length - (k + 1), by omega, f2, k + 1, rfl, J2, ?_, rfl⟩
    have := congrArg List.length hf2
    rw [List.length_append] at this
    omega
  · have hge : f.length ≤ k := by have := of_decide_eq_false h; rw [sS_len] at this; omega
    have ek : f.drop k = [] := List.drop_eq_nil_of_le hge
    rw [ek] at J
    refine ws_retO (wo_cb ?_)
    repeat (walk_at "w")
    refine vco_srtS (by omega) fun ps' s' e ks' W' hs' => ?_
    have e1 := List.cons.inj e
    have e2 := dPs_inj.mp (D.lst.inj e1.1)
    have e3 := D.str.inj (List.cons.inj e1.2).1
    subst e2 e3
    rw [pc_uniq W'.kn J.nd J.closed fun x hx => W'.rch hs' (J.rch x hx)]

abbrev sPieces : Stmt := top 46
abbrev nPieces : List Str := ["_law_spots", "_law_pairs", "_law_found", "_law_spot", "_law_piece_here"]
theorem scPieces : FnScope nPieces ["_law_spots", "_law_pairs"] (defScope sPieces) := ⟨rfl, rfl, rfl, by decide +kernel, rfl, by decide +kernel, by decide +kernel⟩
noncomputable def pcsL (sp : List Str) (ps : List Lk) : List (List Str) := (sp.filter fun s => decide ((pcS sp (raw ps) s)[0]? = some s)).map fun s => pcS sp (raw ps) s
def lsD (l : List (List Str)) : List D := l.map fun x => .lst (sS x)
def prePieces : List D → Prop := fun ds => ∃ sp ps, ds = [.lst (sS sp), .lst (dPs ps)] ∧ Prs sp ps ∧ srtS sp = sp
def postPieces : List D → List D → Prop := fun ds r => ∀ sp ps, ds = [.lst (sS sp), .lst (dPs ps)] → r = lsD (pcsL sp ps)
theorem pcS_ne {ks : List Str} {nb : Str → List Str} {s : Str} (hs : s ∈ ks) : 0 < (pcS ks nb s).length := by
  unfold pcS
  rw [srtS_len]
  exact List.length_pos_of_mem (List.mem_filter.mpr ⟨hs, by simpa using Rch.refl⟩)
theorem pcS_len {ks : List Str} {nb : Str → List Str} {s : Str} : (pcS ks nb s).length ≤ ks.length := by
  unfold pcS
  rw [srtS_len]
  exact List.length_filter_le _ _
theorem cl_pieces (F : Fd K mg "_law_pieces" ["_law_spots", "_law_pairs"] sPieces) (M : Mb mg) (c_piece : Cl P w K mg base 2 "_law_piece" ["_law_pairs", "_law_spot"] (SpO K C prePiece postPiece)) : Cl P w K mg base 3 "_law_pieces" ["_law_spots", "_law_pairs"] (SpO K C prePieces postPieces) := F.cl fun f fd F => by
  refine fnO F scPieces (fun ds ⟨_, _, e, _⟩ => by rw [e]; rfl) fun cdv A outer s H E hr => ?_
  refine ⟨_, (pss_cons (ps_setLc (i := 2) (own := [("_law_spot", 3)]) (by rfl) scPieces.nd rfl rfl (sw_true rfl rfl rfl (by decide +kernel)) (pi_list (pe_callB (call_srt rfl) (by rfl) M.sorted (by decide +kernel) (pa_cons (pv 0) pa_nil))) (blkOk_by (N := nPieces) (sc := defScope sPieces) (by decide +kernel)) (fun _ _ _ _ _ => (pg_name (i := 3) scPieces.nd rfl (by first | exact Or.inl rfl | exact Or.inr rfl))) (fun _ _ _ _ _ => pts_nil) (fun _ _ _ _ _ => (by exact pcl c_piece (hr.mono (by decide)) (pa_cons (pv 1) (pa_cons (pv 3) pa_nil)))))
    (pss_one (ps_ret (pe_lc (own := [("_law_piece_here", 4), ("_law_spot", 3)]) (by rfl) scPieces.nd (pi_zip (by rfl) M.zip (pa_cons (pv 2) (pa_cons (pe_callB (call_srt rfl) (by rfl) M.sorted (by decide +kernel) (pa_cons (pv 0) pa_nil)) pa_nil))) (blkOk_by (N := nPieces) (sc := defScope sPieces) (by decide +kernel)) (fun _ _ _ _ _ => (pg_tupK (K := K) (n := 2) rfl (by rfl) (pgs_cons (pg_name (i := 4) scPieces.nd rfl (by first | exact Or.inl rfl | exact Or.inr rfl)) (pgs_cons (pg_name (i := 3) scPieces.nd rfl (by first | exact Or.inl rfl | exact Or.inr rfl)) pgs_nil)))) (fun _ _ _ _ _ => (pts_one (pt_cmpR op_eq (pe_ix (ix_listK (K := K) rfl) (pv 4) pe_int (fun _ _ => rfl)) (pv 3) (nomark _)))) (fun _ _ _ _ _ => (pv 4)))))), fun pot old M H ds hp => ?_⟩
  obtain ⟨sp, ps, rfl, W, so⟩ := hp
  dsimp only [cxOf, Cx.nox, Cx.wish]
  show WS _ _ [.da (.lst (sS sp)), .da (.lst (dPs ps)), .no, .no, .no] _
  have k60 := W.kl
  generalize hpc : (fun s => pcS sp (raw ps) s) = pc
  have pcv : ∀ s, pc s = pcS sp (raw ps) s := fun s => by rw [← hpc]
  refine ws_seq (ws_asg (WO.we (wo_lc (go_name (by simp)) (wi_list (WO.we (wo_cb ?_))))))
  repeat (walk_at "w")
  refine vco_srtS (by omega) ?_
  rw [so]
  refine ⟨_, rfl, by rw [sS_len]; omega, fun i acc => acc = lsD ((sp.take i).map pc), rfl, ?_, ?_⟩
  · rintro i d acc hd rfl
    obtain ⟨x, rfl, hx⟩ := get_sS hd
    refine wg_name (wt_yes ⟨fun _ => ?_, fun h => nomatch h⟩)
    show WE _ _ [.da (.lst (sS sp)), .da (.lst (dPs ps)), .no, .da (.str x), .no] _
    refine WO.we (wo_call ?_)
    repeat (walk_at "w")
    refine ⟨⟨ps, x, sp, rfl, W, List.mem_of_getElem? hx⟩, fun r hr' => ?_⟩
    have er := hr' ps x rfl sp W (List.mem_of_getElem? hx)
    subst er
    show _ = lsD ((sp.take (i + 1)).map pc)
    rw [List.take_add_one, hx, List.map_append]
    simp [lsD, pcv]
  rintro acc rfl
  rw [sS_len, List.take_length]
  refine wg_name ?_
  show WS _ _ [.da (.lst (sS sp)), .da (.lst (dPs ps)), .da (.lst (lsD (sp.map pc))), .no, .no] _
  refine ws_retO (wo_lc (go_tup2 (by simp) (by simp)) (wi_zip (wa_cons (we_var rfl (wa_cons (WO.we (wo_cb ?_)))))))
  repeat (walk_at "w")
  refine vco_srtS (by omega) ?_
  rw [so]
  repeat (walk_at "w")
  refine ⟨_, _, rfl, by simp [lsD, sS]; omega, fun i acc => acc = lsD (((sp.take i).filter fun s => decide ((pc s)[0]? = some s)).map pc), rfl, ?_, ?_⟩
  · rintro i d acc hd rfl
    obtain ⟨x, hx, rfl⟩ : ∃ x, sp[i]? = some x ∧ d = .tup [.lst (sS (pc x)), .str x] := by
      rw [List.getElem?_zipWith] at hd
      unfold lsD sS at hd
      rw [List.getElem?_map, List.getElem?_map, List.getElem?_map] at hd
      cases z : sp[i]? with
      | none => rw [z] at hd; cases hd
      | some x => rw [z] at hd; cases hd; exact ⟨x, rfl, rfl⟩
    have xs := List.mem_of_getElem? hx
    have pl : 0 < (pc x).length := by rw [pcv]; exact pcS_ne xs
    refine wg_tup2 (wg_name (wg_name ?_))
    show WT _ _ [.da (.lst (sS sp)), .da (.lst (dPs ps)), .da (.lst (lsD (sp.map pc))), .da (.str x), .da (.lst (sS (pc x)))] _
    have nxt : ∀ b : Bool, decide ((pc x)[0]? = some x) = b → lsD (((sp.take (i + 1)).filter fun s => decide ((pc s)[0]? = some s)).map pc) = lsD (((sp.take i).filter fun s => decide ((pc s)[0]? = some s)).map pc) ++ (if b then [D.lst (sS (pc x))] else []) := fun b hb => by
      rw [List.take_add_one, hx, List.filter_append, List.map_append]
      show lsD (_ ++ List.map pc (List.filter _ [x])) = _
      simp only [List.filter_cons, List.filter_nil, hb]
      cases b <;> simp [lsD]
    repeat (walk_at "w")
    refine v2_ixLn (by decide) (by rw [sS_len]; omega) fun d hd => ?_
    obtain ⟨y, rfl, hy⟩ := get_sS hd
    have hy' : (pc x)[0]? = some y := hy
    have ee : decide ((pc x)[0]? = some x) = decide (y = x) := by rw [hy']; simp
    repeat (walk_at "w")
    refine v2_eqSS ⟨_, rfl, fun h => ?_, fun h => ?_⟩
    · repeat (walk_at "w")
      exact (nxt true (ee.trans h)).symm
    · exact ((nxt false (ee.trans h)).trans (List.append_nil _)).symm
  rintro acc rfl sp' ps' e
  have e1 := List.cons.inj e
  have e2 := sS_inj.mp (D.lst.inj e1.1)
  have e3 := dPs_inj.mp (D.lst.inj (List.cons.inj e1.2).1)
  subst e2 e3
  have el : (List.zipWith (fun a b => D.tup [a, b]) (lsD (sp.map pc)) (sS sp)).length = sp.length := by simp [lsD, sS]
  rw [el, List.take_length]
  unfold pcsL
  rw [← hpc]

abbrev sTurned : Stmt := top 43
abbrev nTurned : List Str := ["_law_pot_here", "_law_pairs", "_law_this", "_law_mate"]
theorem scTurned : FnScope nTurned ["_law_pot_here", "_law_pairs"] (defScope sTurned) := ⟨rfl, rfl, rfl, by decide +kernel, rfl, by decide +kernel, by decide +kernel⟩
def preTurned : List D → Prop := fun ds => ∃ ps, ds = [.pot, .lst (dPs ps)] ∧ ps.length ≤ 1000
def postTurned : List D → List D → Prop := fun ds r => ∀ ps, ds = [.pot, .lst (dPs ps)] → ∃ ls : List Lk, r = dPs ls ∧ (ls.map ordP).Perm (ps.map ordP) ∧ ∀ p ∈ ls, p ∈ ps ∨ (p.2, p.1) ∈ ps
abbrev CMixed (P : Program) (w : World) (K : PySem.W.Frag) (mg : Str → Option Value) (base : Heap) (C : Addr) : Prop := Cl P w K mg base 2 "_law_mixed" ["_law_pot_here", "_law_some"] (SpO K C preMixed postMixed)
theorem cl_turned (F : Fd K mg "_law_turned" ["_law_pot_here", "_law_pairs"] sTurned) (c_draw : CDraw P w K mg base C) (c_mixed : CMixed P w K mg base C) : Cl P w K mg base 3 "_law_turned" ["_law_pot_here", "_law_pairs"] (SpO K C preTurned postTurned) := F.cl fun f fd F => by
  refine fnO F scTurned (fun ds ⟨_, e, _⟩ => by rw [e]; rfl) fun cdv A outer s H E hr => ?_
  refine ⟨_, (pss_one (ps_ret (pe_lc (own := [("_law_this", 2), ("_law_mate", 3)]) (by rfl) scTurned.nd (pi_list (pcl c_mixed (hr.mono (by decide)) (pa_cons (pv 0) (pa_cons (pv 1) pa_nil)))) (blkOk_by (N := nTurned) (sc := defScope sTurned) (by decide +kernel)) (fun _ _ _ _ _ => (pg_tupK (K := K) (n := 2) rfl (by rfl) (pgs_cons (pg_name (i := 2) scTurned.nd rfl (by first | exact Or.inl rfl | exact Or.inr rfl)) (pgs_cons (pg_name (i := 3) scTurned.nd rfl (by first | exact Or.inl rfl | exact Or.inr rfl)) pgs_nil)))) (fun _ _ _ _ _ => pts_nil) (fun _ _ _ _ _ => (pe_ifExp (pt_cmpR op_eq (by exact pcl c_draw (hr.mono (by decide)) (pa_cons (pv 0) (pa_cons pe_int pa_nil))) pe_int (nomark _)) (pe_tup (pa_cons (pv 2) (pa_cons (pv 3) pa_nil))) (pe_tup (pa_cons (pv 3) (pa_cons (pv 2) pa_nil)))))))), fun pot old M H ds hp => ?_⟩
  obtain ⟨ps, rfl, pl⟩ := hp
  dsimp only [cxOf, Cx.nox, Cx.wish]
  show WS _ _ [.da .pot, .da (.lst (dPs ps)), .no, .no] _
  refine ws_retO (wo_lc (go_tup2 (by simp) (by simp)) (wi_list (WO.we (wo_call ?_))))
  repeat (walk_at "w")
  refine ⟨⟨_, rfl, by rw [dPs_len]; omega⟩, fun r hr' => ?_⟩
  obtain ⟨q, rfl, hq⟩ := perm_map (hr' _ rfl) (l := ps) rfl
  have ql := hq.length_eq
  refine ⟨_, rfl, by rw [List.length_map]; omega, fun i acc => ∃ ls : List Lk, acc = dPs ls ∧ ls.map ordP = (q.take i).map ordP ∧ ∀ p ∈ ls, p ∈ ps ∨ (p.2, p.1) ∈ ps, ⟨[], rfl, rfl, fun _ h => nomatch h⟩, ?_, ?_⟩
  · rintro i d acc hd ⟨ls, rfl, hl, ho⟩
    obtain ⟨p, rfl, hp⟩ := get_dPs hd
    have mp := hq.mem_iff.mp (List.mem_of_getElem? hp)
    refine wg_tup2 (wg_name (wg_name (wt_yes ⟨fun _ => ?_, fun h => nomatch h⟩)))
    show WE _ _ [.da .pot, .da (.lst (dPs ps)), .da (.str p.1), .da (.str p.2)] _
    have nxt : ∀ p' : Lk, ordP p' = ordP p → (p' ∈ ps ∨ (p'.2, p'.1) ∈ ps) → ∃ ls' : List Lk, dPs ls ++ [dP p'] = dPs ls' ∧ ls'.map ordP = (q.take (i + 1)).map ordP ∧ ∀ p ∈ ls', p ∈ ps ∨ (p.2, p.1) ∈ ps := fun p' h1 h2 => by
      refine ⟨ls ++ [p'], by simp [dPs], by rw [List.map_append, hl, List.take_add_one, hp, List.map_append]; simp [h1], fun x hx => ?_⟩
      rcases List.mem_append.mp hx with h | h
      · exact ho x h
      · rw [List.mem_singleton.mp h]; exact h2
    refine we_if ?_
    repeat (walk_at "w")
    refine ⟨⟨2, rfl, by omega, by omega⟩, fun d hd => ?_⟩
    obtain ⟨j, rfl, _, _⟩ := hd _ rfl
    repeat (walk_at "w")
    refine v2_eqII ⟨_, rfl, fun _ => ?_, fun _ => ?_⟩
    · repeat (walk_at "w")
      exact ⟨by show (2 : Nat) ≤ 1000; decide, nxt p rfl (.inl mp)⟩
    · repeat (walk_at "w")
      exact ⟨by show (2 : Nat) ≤ 1000; decide, nxt (p.2, p.1) (ordP_flip p) (.inr mp)⟩
  · rintro acc ⟨ls, rfl, hl, ho⟩ ps' e
    have e1 := dPs_inj.mp (D.lst.inj (List.cons.inj (List.cons.inj e).2).1)
    subst e1
    rw [List.length_map, List.take_length] at hl
    exact ⟨ls, rfl, by rw [hl]; exact hq.map _, ho⟩

/-! ### models -/
def modL (sp : List Str) (ps : List Lk) : List (Str × D) := [("spots", .lst (sS sp)), ("pairs", .lst (dPs ps))]
def modD (sp : List Str) (ps : List Lk) : D := .dic (modL sp ps)
theorem mod_spots (sp : List Str) (ps : List Lk) : (modL sp ps).lookup ("spots" : Str) = some (D.lst (sS sp)) := rfl
theorem mod_pairs (sp : List Str) (ps : List Lk) : (modL sp ps).lookup ("pairs" : Str) = some (D.lst (dPs ps)) := by
  have a1 : (("pairs" : Str) == "spots") = false := by decide +kernel
  unfold modL
  rw [List.lookup_cons, a1]
  rfl

abbrev sIsPart : Stmt := top 52
abbrev nIsPart : List Str := ["_law_model", "_law_more", "_law_pair", "_law_spot"]
theorem scIsPart : FnScope nIsPart ["_law_model", "_law_more"] (defScope sIsPart) := ⟨rfl, rfl, rfl, by decide +kernel, rfl, by decide +kernel, by decide +kernel⟩
def okM (sp : List Str) (ps : List Lk) : Prop := sp.length ≤ 60 ∧ ps.length ≤ 120 ∧ (∀ s ∈ sp, nameOk s = true) ∧ ∀ p ∈ ps, nameOk p.1 = true ∧ nameOk p.2 = true
def preIsPart : List D → Prop := fun ds => ∃ sp ps sp' ps', ds = [modD sp ps, modD sp' ps'] ∧ okM sp ps ∧ okM sp' ps'
def partM (sp : List Str) (ps : List Lk) (sp' : List Str) (ps' : List Lk) : Bool := (sp.all fun s => decide (s ∈ sp')) && ps.all fun p => decide (p ∈ ps')
def postIsPart : List D → D → Prop := fun ds r => ∀ sp ps sp' ps', ds = [modD sp ps, modD sp' ps'] → r = .bl (partM sp ps sp' ps')
theorem modD_inj {a b : List Str} {c d : List Lk} (h : modD a c = modD b d) : a = b ∧ c = d := by
  have h1 := D.dic.inj h
  have h2 := List.cons.inj h1
  have h3 := (Prod.mk.inj h2.1).2
  have h4 := (Prod.mk.inj (List.cons.inj h2.2).1).2
  exact ⟨sS_inj.mp (D.lst.inj h3), dPs_inj.mp (D.lst.inj h4)⟩
theorem cl_is_part (F : Fd K mg "_law_is_part" ["_law_model", "_law_more"] sIsPart) (M : Mb mg) : Cl P w K mg base 1 "_law_is_part" ["_law_model", "_law_more"] (SpD K C preIsPart postIsPart) := F.cl fun f fd F => by
  refine fnD F scIsPart (fun ds ⟨_, _, _, _, e, _⟩ => by rw [e]; rfl) fun cdv A outer s H E hr => ?_
  have hu := hu_of hr
  refine ⟨_, (pss_cons (ps_if (pt_not (pt_val (pe_callB (cr_all rfl) (by rfl) M.all (by decide +kernel) (pa_cons (pe_lc (own := [("_law_spot", 3)]) (by rfl) scIsPart.nd (pi_list (pe_dget hu (pv 0) pe_str (fun _ _ => rfl))) (blkOk_by (N := nIsPart) (sc := defScope sIsPart) (by decide +kernel)) (fun _ _ _ _ _ => (pg_name (i := 3) scIsPart.nd rfl (by first | exact Or.inl rfl | exact Or.inr rfl))) (fun _ _ _ _ _ => pts_nil) (fun _ _ _ _ _ => (pe_cmpR (op_in_seqK (K := K) rfl) (pv 3) (pe_dget hu (pv 1) pe_str (fun _ _ => rfl)) (by rfl)))) pa_nil)))) (pss_one (ps_ret pe_bl)) pss_nil)
    (pss_one (ps_ret (pe_callB (cr_all rfl) (by rfl) M.all (by decide +kernel) (pa_cons (pe_lc (own := [("_law_pair", 2)]) (by rfl) scIsPart.nd (pi_list (pe_dget hu (pv 0) pe_str (fun _ _ => rfl))) (blkOk_by (N := nIsPart) (sc := defScope sIsPart) (by decide +kernel)) (fun _ _ _ _ _ => (pg_name (i := 2) scIsPart.nd rfl (by first | exact Or.inl rfl | exact Or.inr rfl))) (fun _ _ _ _ _ => pts_nil) (fun _ _ _ _ _ => (pe_cmpR (op_inDK (K := K) rfl (hu65 hr)) (pv 2) (pe_dget hu (pv 1) pe_str (fun _ _ => rfl)) (by rfl)))) pa_nil))))), fun pot old M H ds hp => ?_⟩
  obtain ⟨sp, ps, sp', ps', rfl, ⟨l1, l2, o1, o2⟩, ⟨l3, l4, o3, o4⟩⟩ := hp
  dsimp only [cxOf, Cx.nox, Cx.wish]
  show WS _ _ [.da (modD sp ps), .da (modD sp' ps'), .no, .no] _
  have no : ∀ b : Bool, partM sp ps sp' ps' = b → postIsPart [modD sp ps, modD sp' ps'] (.bl b) := fun b h a1 a2 a3 a4 e => by
    have e1 := modD_inj (List.cons.inj e).1
    have e2 := modD_inj (List.cons.inj (List.cons.inj e).2).1
    rw [← e1.1, ← e1.2, ← e2.1, ← e2.2, h]
  refine ws_seq (ws_if (wt_not ?_))
  repeat (walk_at "w")
  refine WO.we (wo_lc (go_name (by simp)) (wi_list (we_dget ?_)))
  repeat (walk_at "w")
  refine ⟨_, rfl, ?_⟩
  repeat (walk_at "w")
  refine ⟨_, _, rfl, mod_spots sp ps, _, rfl, by rw [sS_len]; omega, fun i acc => acc = sB ((sp.take i).map fun s => decide (s ∈ sp')), rfl, ?_, ?_⟩
  · rintro i d acc hd rfl
    obtain ⟨x, rfl, hx⟩ := get_sS hd
    refine wg_name (wt_yes ⟨fun _ => ?_, fun h => nomatch h⟩)
    show WE _ _ [.da (modD sp ps), .da (modD sp' ps'), .no, .da (.str x)] _
    refine we_op (we_var rfl (we_dget ?_))
    repeat (walk_at "w")
    refine ⟨_, rfl, ?_⟩
    repeat (walk_at "w")
    refine ⟨_, _, rfl, mod_spots sp' ps', v2_inL ?_⟩
    show _ = sB ((sp.take (i + 1)).map _)
    rw [List.take_add_one, hx, List.map_append]
    simp [sB]
  rintro acc rfl
  rw [sS_len, List.take_length]
  repeat (walk_at "w")
  refine vc_all ⟨_, rfl, fun h => ?_, fun h => ?_⟩
  · refine ws_ret (we_bl (no _ ?_))
    rw [List.all_map] at h
    unfold partM
    rw [show (sp.all fun s => decide (s ∈ sp')) = false from by simpa using h]
    rfl
  refine ws_next ?_
  rw [List.all_map] at h
  have h' : (sp.all fun s => decide (s ∈ sp')) = true := by
    have : (sp.all (id ∘ fun s => decide (s ∈ sp'))) = true := by simpa using h
    exact this
  refine ws_ret (we_cb (wa_cons (WO.we (wo_lc (go_name (by simp)) (wi_list (we_dget ?_))))))
  repeat (walk_at "w")
  refine ⟨_, rfl, ?_⟩
  repeat (walk_at "w")
  refine ⟨_, _, rfl, mod_pairs sp ps, _, rfl, by rw [dPs_len]; omega, fun i acc => acc = sB ((ps.take i).map fun s => decide (s ∈ ps')), rfl, ?_, ?_⟩
  · rintro i d acc hd rfl
    obtain ⟨x, rfl, hx⟩ := get_dPs hd
    have ox := o2 x (List.mem_of_getElem? hx)
    refine wg_name (wt_yes ⟨fun _ => ?_, fun h => nomatch h⟩)
    show WE _ _ [.da (modD sp ps), .da (modD sp' ps'), .da (dP x), .no] _
    refine we_op (we_var rfl (we_dget ?_))
    repeat (walk_at "w")
    refine ⟨_, rfl, ?_⟩
    repeat (walk_at "w")
    refine ⟨_, _, rfl, mod_pairs sp' ps', v2_inD (ok_dP 9 (name_strOk ox.1) (name_strOk ox.2)) (ok_dPs (n := 9) fun p hp => ⟨name_strOk (o4 p hp).1, name_strOk (o4 p hp).2⟩) (nob_dP x) (nob_dPs ps') fun b hb => ?_⟩
    have eb : b = decide (x ∈ ps') := by
      rw [Bool.eq_iff_iff, hb, decide_eq_true_eq]
      exact ⟨fun h => by obtain ⟨y, hy, e⟩ := List.mem_map.mp h; rw [← dP_inj.mp e]; exact hy, fun h => List.mem_map.mpr ⟨x, h, rfl⟩⟩
    subst eb
    show _ = sB ((ps.take (i + 1)).map _)
    rw [List.take_add_one, hx, List.map_append]
    simp [sB]
  rintro acc rfl
  rw [dPs_len, List.take_length]
  repeat (walk_at "w")
  refine vc_all (no _ ?_)
  unfold partM
  rw [h', List.all_map]
  rfl
end
end K11


/-! K11J: models; _law_any, _law_polygon, _law_outside. -/
namespace K11
open PySem PySem.Spec PyProof.Rows L2
local macro_rules | `(tactic| walk_at "w") => `(tactic| (first
  | (with_reducible refine ws_seq ?_)
  | (with_reducible refine ws_ret ?_)
  | (with_reducible refine ws_if ?_)
  | (with_reducible refine ws_asg ?_)
  | (with_reducible refine ws_break ?_)
  | (with_reducible refine ws_drop ?_)
  | (with_reducible refine we_var (by with_unfolding_all rfl) ?_)
  | (with_reducible refine we_int ?_)
  | (with_reducible refine we_str ?_)
  | (with_reducible refine we_bl ?_)
  | (with_reducible refine we_non ?_)
  | (with_reducible refine we_ty ?_)
  | (with_reducible refine we_cls ?_)
  | (with_reducible refine wa_cons ?_)
  | (with_reducible refine wa_nil ?_)
  | (with_reducible refine we_cb ?_)
  | (with_reducible refine vc_lenL ?_)
  | (with_reducible refine vc_lenT ?_)
  | (with_reducible refine v2_B0 ?_)
  | (with_reducible refine v2_I0 ?_)
  | (with_reducible refine we_call ?_)
  | (with_reducible refine we_op ?_)
  | (with_reducible refine we_tup ?_)
  | (with_reducible refine we_if ?_)
  | (with_reducible refine we_chain ?_)
  | (with_reducible refine wt_test ?_)
  | (with_reducible refine wt_B ?_)
  | (with_reducible refine wt_not ?_)
  | (with_reducible refine wt_or ?_)
  | (with_reducible refine wt_and ?_)))


/-! ### models -/
structure Mdl (sp : List Str) (ps : List Lk) : Prop where
  s1 : 1 ≤ sp.length
  so : srtS sp = sp
  sn : sp.Nodup
  sk : ∀ s ∈ sp, nameS s
  po : srtP ps = ps
  pn : ps.Nodup
  pk : ∀ p ∈ ps, ordP p = p ∧ p.1 ≠ p.2 ∧ p.1 ∈ sp ∧ p.2 ∈ sp
/-- pairs that fit the spots -/
structure Fit (sp : List Str) (ps : List Lk) : Prop where
  pn : ps.Nodup
  pk : ∀ p ∈ ps, ordP p = p ∧ p.1 ≠ p.2 ∧ p.1 ∈ sp ∧ p.2 ∈ sp
theorem srtS_idem (l : List Str) : srtS (srtS l) = srtS l := (srtS_uniq (List.Perm.refl _) (srtS_pw l)).symm
theorem srtP_idem (l : List Lk) : srtP (srtP l) = srtP l := (srtP_uniq (List.Perm.refl _) (srtP_pw l)).symm
theorem mdl_of {l : List Str} {q : List Lk} (h1 : 1 ≤ l.length) (nd : l.Nodup) (ok : ∀ s ∈ l, nameS s) (F : Fit l q) : Mdl (srtS l) (srtP q) :=
  ⟨by rw [srtS_len]; exact h1, srtS_idem l, (srtS_perm l).nodup_iff.mpr nd, fun s hs => ok s ((srtS_perm l).mem_iff.mp hs), srtP_idem q, (srtP_perm q).nodup_iff.mpr F.pn, fun p hp => by
    obtain ⟨a, b, c, d⟩ := F.pk p ((srtP_perm q).mem_iff.mp hp)
    exact ⟨a, b, (srtS_perm l).mem_iff.mpr c, (srtS_perm l).mem_iff.mpr d⟩⟩
theorem Fit.snoc {sp : List Str} {ps : List Lk} (F : Fit sp ps) {p : Lk} (hp : ordP p = p ∧ p.1 ≠ p.2 ∧ p.1 ∈ sp ∧ p.2 ∈ sp) (h : p ∉ ps) : Fit sp (ps ++ [p]) :=
  ⟨List.nodup_append.mpr ⟨F.pn, by simp, fun a ha b hb => by rw [List.mem_singleton.mp hb]; exact fun e => h (e ▸ ha)⟩, fun q hq => by
    rcases List.mem_append.mp hq with z | z
    · exact F.pk q z
    · rw [List.mem_singleton.mp z]; exact hp⟩
theorem Fit.nil (sp : List Str) : Fit sp [] := ⟨List.nodup_nil, fun _ h => nomatch h⟩
theorem Fit.grow {sp sp' : List Str} {ps : List Lk} (F : Fit sp ps) (h : ∀ s ∈ sp, s ∈ sp') : Fit sp' ps := ⟨F.pn, fun p hp => let ⟨a, b, c, d⟩ := F.pk p hp; ⟨a, b, h _ c, h _ d⟩⟩
theorem ordP_idem (p : Lk) : ordP (ordP p) = ordP p := by
  rcases ordP_ends p with e | e
  · rw [e, e]
  · rw [e, ordP_flip, e]
theorem ordP_fit {sp : List Str} {a b : Str} (ne : a ≠ b) (ha : a ∈ sp) (hb : b ∈ sp) : ordP (ordP (a, b)) = ordP (a, b) ∧ (ordP (a, b)).1 ≠ (ordP (a, b)).2 ∧ (ordP (a, b)).1 ∈ sp ∧ (ordP (a, b)).2 ∈ sp := by
  refine ⟨ordP_idem _, ?_⟩
  rcases ordP_ends (a, b) with e | e
  · rw [e]; exact ⟨ne, ha, hb⟩
  · rw [e]; exact ⟨ne.symm, hb, ha⟩
theorem mod_merge (sp : List Str) (ps : List Lk) : mergeS [] [("spots", .lst (sS sp)), ("pairs", .lst (dPs ps))] = modL sp ps := by
  have a1 : ¬ (("spots" : Str) = "pairs") := by decide +kernel
  rw [merge_nodup (by show ([("spots" : Str), ("pairs" : Str)]).Nodup; simp [a1]) (fun _ _ z => by cases z)]
  rfl
theorem D_any_dPs {x : Lk} {ps : List Lk} {b : Bool} (hb : b = true ↔ dP x ∈ dPs ps) : b = decide (x ∈ ps) := by
  rw [Bool.eq_iff_iff, hb, decide_eq_true_eq]
  exact ⟨fun h => by obtain ⟨y, hy, e⟩ := List.mem_map.mp h; rw [← dP_inj.mp e]; exact hy, fun h => List.mem_map.mpr ⟨x, h, rfl⟩⟩
theorem D_any_sS {x : Str} {l : List Str} : D.str x ∈ sS l ↔ x ∈ l := ⟨fun h => by obtain ⟨y, hy, e⟩ := List.mem_map.mp h; cases e; exact hy, fun h => List.mem_map.mpr ⟨x, h, rfl⟩⟩
def ModR (n m : Nat) (d : D) : Prop := ∃ sp ps, d = modD sp ps ∧ Mdl sp ps ∧ sp.length ≤ n ∧ ps.length ≤ m
section
variable {B : Bs} {Γ : Ctx} {R : D → Prop}
/-- {'spots': sorted(spots), 'pairs': sorted(pairs)} -/
theorem we_model {i j : Nat} {l : List Str} {q : List Lk} (hi : Γ[i]? = some (.da (.lst (sS l)))) (hj : Γ[j]? = some (.da (.lst (dPs q)))) (h1 : l.length ≤ 1000) (h2 : q.length ≤ 1000) (k : R (modD (srtS l) (srtP q))) :
    WE B (tDisp [(tC (.str "spots"), tCB (rSrt B.W.K) (tCons (tVar i) tNil)), (tC (.str "pairs"), tCB (rSrt B.W.K) (tCons (tVar j) tNil))]) Γ R := by
  refine WK.we (wk_disp (wp_cons (we_str ⟨_, rfl, WO.we (wo_cb (wa_cons (we_var hi (wa_nil (vco_srtS h1 (wp_cons (we_str ⟨_, rfl, WO.we (wo_cb (wa_cons (we_var hj (wa_nil (vco_srtP h2 (wp_nil ⟨by show (2 : Nat) ≤ 15; decide, ?_⟩))))))⟩)))))))⟩)))
  rw [mod_merge]
  exact k
end
section
variable {P : Program} {w : World} {K : PySem.W.Frag} {mg : Str → Option Value} {base : Heap} {C : Addr}
abbrev CNamed (P : Program) (w : World) (K : PySem.W.Frag) (mg : Str → Option Value) (base : Heap) (C : Addr) : Prop := Cl P w K mg base 2 "_law_named" ["_law_pot_here", "_law_size", "_law_taken"] (SpO K C preNamed postNamed)

abbrev sAny : Stmt := top 40
abbrev nAny : List Str := ["_law_pot_here", "_law_most", "_law_size", "_law_turn", "_law_spots", "_law_pairs", "_law_this", "_law_mate"]
theorem scAny : FnScope nAny ["_law_pot_here", "_law_most", "_law_size"] (defScope sAny) := ⟨rfl, rfl, rfl, by decide +kernel, rfl, by decide +kernel, by decide +kernel⟩
theorem cl_any (F : Fd K mg "_law_any" ["_law_pot_here", "_law_most", "_law_size"] sAny) (M : Mb mg) (c_draw : CDraw P w K mg base C) (c_pick : CPick P w K mg base C) (c_named : CNamed P w K mg base C) (c_link : CLink P w K mg base C) :
    Cl P w K mg base 3 "_law_any" ["_law_pot_here", "_law_most", "_law_size"] (SpD K C (fun ds => ds = [.pot, .int 8, .int 10]) fun _ d => ModR 8 10 d) := F.cl fun f fd F => by
  refine fnD F scAny (fun ds e => by rw [e]; rfl) fun cdv A outer s H E hr => ?_
  refine ⟨_, (pss_cons (ps_par (i := 4) (j := 5) (by rfl) scAny.nd rfl rfl (by decide) rfl rfl (pa_cons (pcl c_named (hr.mono (by decide)) (pa_cons (pv 0) (pa_cons (pe_op op_add pe_int (pcl c_draw (hr.mono (by decide)) (pa_cons (pv 0) (pa_cons (pv 1) pa_nil)))) (pa_cons (pe_lst pa_nil) pa_nil)))) (pa_cons (pe_lst pa_nil) pa_nil)) (by rfl))
    (pss_cons (ps_for PassesOwn.never rfl (pi_range1 (by rfl) M.range (pa_cons (pcl c_draw (hr.mono (by decide)) (pa_cons (pv 0) (pa_cons (pe_op op_add (pv 2) pe_int) pa_nil))) pa_nil)) (pg_name (i := 3) scAny.nd rfl (by first | exact Or.inl rfl | exact Or.inr rfl)) (pss_cons (ps_par (i := 6) (j := 7) (by rfl) scAny.nd rfl rfl (by decide) rfl rfl (pa_cons (pcl c_pick (hr.mono (by decide)) (pa_cons (pv 0) (pa_cons (pv 4) pa_nil))) (pa_cons (pcl c_pick (hr.mono (by decide)) (pa_cons (pv 0) (pa_cons (pv 4) pa_nil))) pa_nil)) (by rfl))
    (pss_one (ps_if (PW.pt (pw_and (pt_cmpR op_ne (pv 6) (pv 7) (nomark _)) (pw_and1 (pt_cmpR (op_notInD (hu65 hr)) (pcl c_link (hr.mono (by decide)) (pa_cons (pv 6) (pa_cons (pv 7) pa_nil))) (pv 5) (by rfl))))) (pss_one (ps_expr (pe_bm PySem.F.plainAttrs_list PySem.F.slot_list_append PySem.F.type_list_append mt_append (pv 5) (pa_cons (pcl c_link (hr.mono (by decide)) (pa_cons (pv 6) (pa_cons (pv 7) pa_nil))) pa_nil)))) pss_nil))))
    (pss_one (ps_ret (pe_disp (pps_cons pe_str (pe_callB (call_srt rfl) (by rfl) M.sorted (by decide +kernel) (pa_cons (pv 4) pa_nil)) (pps_cons pe_str (pe_callB (call_srt rfl) (by rfl) M.sorted (by decide +kernel) (pa_cons (pv 5) pa_nil)) pps_nil)) (by rfl) (by rfl) (fun z => by cases z) (by decide)))))), fun pot old M H ds hp => ?_⟩
  subst hp
  dsimp only [cxOf, Cx.nox, Cx.wish]
  show WS _ _ [.da .pot, .da (.int 8), .da (.int 10), .no, .no, .no, .no, .no] _
  refine ws_seq (ws_par2 (wf_da (WO.we (wo_call ?_))))
  repeat (walk_at "w")
  refine ⟨⟨8, rfl, by omega, by omega⟩, fun d hd => ?_⟩
  obtain ⟨j, rfl, j0, j1⟩ := hd _ rfl
  refine v2_I0 ?_
  repeat (walk_at "w")
  refine WO.we (wo_lst (wa_nil ⟨by decide, ?_⟩))
  repeat (walk_at "w")
  refine ⟨⟨(1 + j).toNat, [], by rw [Int.toNat_of_nonneg (by omega)]; rfl, by omega, by decide⟩, fun r hr' => ?_⟩
  obtain ⟨l, rfl, ll, nd, ok⟩ := hr' (1 + j).toNat [] (by rw [Int.toNat_of_nonneg (by omega)]; rfl)
  refine wf_ow (wo_lst (wa_nil ⟨by decide, ?_⟩))
  show WS _ _ [.da .pot, .da (.int 8), .da (.int 10), .no, .da (.lst (sS l)), .ow [], .no, .no] _
  refine ws_seq (ws_for (wi_range1 ?_))
  repeat (walk_at "w")
  refine ⟨⟨11, rfl, by omega, by omega⟩, fun d hd => ?_⟩
  obtain ⟨t, rfl, t0, t1⟩ := hd _ rfl
  repeat (walk_at "w")
  refine ⟨t, rfl, by omega, by omega, fun i Γ1 => ∃ q e3 e6 e7, Γ1 = [.da .pot, .da (.int 8), .da (.int 10), e3, .da (.lst (sS l)), .ow (dPs q), e6, e7] ∧ Fit l q ∧ q.length ≤ i, ⟨[], _, _, _, rfl, Fit.nil l, Nat.le_refl _⟩, ?_, ?_⟩
  · rintro i d Γ1 hd ⟨q, e3, e6, e7, rfl, Fq, ql⟩
    obtain ⟨rfl, hi⟩ := intsD_inv hd
    refine wg_name ?_
    show WS _ _ [.da .pot, .da (.int 8), .da (.int 10), .da (.int (i : Nat)), .da (.lst (sS l)), .ow (dPs q), e6, e7] _
    refine ws_seq (ws_par2 (wf_da ?_))
    repeat (walk_at "w")
    refine ⟨⟨_, rfl, by rw [sS_len]; omega, by rw [sS_len]; omega⟩, fun d hd => wf_da ?_⟩
    obtain ⟨a, ha, rfl⟩ := List.mem_map.mp (hd _ rfl)
    repeat (walk_at "w")
    refine ⟨⟨_, rfl, by rw [sS_len]; omega, by rw [sS_len]; omega⟩, fun d hd => ?_⟩
    obtain ⟨b, hb, rfl⟩ := List.mem_map.mp (hd _ rfl)
    show WS _ _ [.da .pot, .da (.int 8), .da (.int 10), .da (.int (i : Nat)), .da (.lst (sS l)), .ow (dPs q), .da (.str a), .da (.str b)] _
    have skip : WS (bs K C pot old M H) tNext [.da .pot, .da (.int 8), .da (.int 10), .da (.int (i : Nat)), .da (.lst (sS l)), .ow (dPs q), .da (.str a), .da (.str b)]
        { nx := fun Γ1 => ∃ q e3 e6 e7, Γ1 = [.da .pot, .da (.int 8), .da (.int 10), e3, .da (.lst (sS l)), .ow (dPs q), e6, e7] ∧ Fit l q ∧ q.length ≤ i + 1 } := ws_next ⟨q, _, _, _, rfl, Fq, by omega⟩
    refine ws_if ?_
    repeat (walk_at "w")
    refine v2_neSS ⟨_, rfl, fun h => ?_, fun h => ⟨fun z => (nomatch z), fun _ => skip.imp ⟨fun _ h => h, fun _ h => h.elim, fun _ h => h.elim, fun _ h => h.elim, fun _ h => h.elim⟩⟩⟩
    have ne : a ≠ b := by simpa using h
    have fit := ordP_fit ne ha hb
    have oka := (ok _ fit.2.2.1).1.1
    have okb := (ok _ fit.2.2.2).1.1
    refine seeT (i := 5) rfl (.ow _) ?_
    show WT _ _ [.da .pot, .da (.int 8), .da (.int 10), .da (.int (i : Nat)), .da (.lst (sS l)), .da (.lst (dPs q)), .da (.str a), .da (.str b)] _
    repeat (walk_at "w")
    refine ⟨⟨a, b, rfl⟩, fun d hd => ?_⟩
    have ed := hd a b rfl
    subst ed
    repeat (walk_at "w")
    refine v2_ninD (ok_dP 9 (name_strOk oka) (name_strOk okb)) (ok_dPs (n := 9) fun p hp => ⟨name_strOk (ok _ (Fq.pk p hp).2.2.1).1.1, name_strOk (ok _ (Fq.pk p hp).2.2.2).1.1⟩) (nob_dP _) (nob_dPs q) fun b' hb' => ⟨_, rfl, fun h => ?_, fun h => skip.imp ⟨fun _ h => h, fun _ h => h.elim, fun _ h => h.elim, fun _ h => h.elim, fun _ h => h.elim⟩⟩
    have eb := D_any_dPs hb'
    have nq : ordP (a, b) ∉ q := by rw [eb] at h; simpa using h
    refine ws_append (i := 5) rfl ?_
    repeat (walk_at "w")
    refine ⟨⟨a, b, rfl⟩, fun d hd => ?_⟩
    have ed := hd a b rfl
    subst ed
    refine ⟨by rw [dPs_len]; omega, q ++ [ordP (a, b)], _, _, _, by rw [show dPs q ++ [dP (ordP (a, b))] = dPs (q ++ [ordP (a, b)]) by simp [dPs]]; rfl, Fq.snoc fit nq, by rw [List.length_append]; show q.length + 1 ≤ _; omega⟩
  · rintro Γ1 ⟨q, e3, e6, e7, rfl, Fq, ql⟩
    rw [intsD_len] at ql
    refine ws_give (i := 5) rfl (ws_ret (we_model (i := 4) (j := 5) rfl rfl (by omega) (by omega) ?_))
    exact ⟨_, _, rfl, mdl_of (by omega) nd (fun s hs => (ok s hs).1) Fq, by rw [srtS_len]; omega, by rw [srtP_len]; omega⟩
end
end K11


/-! K11L: _law_polygon, _law_outside. -/
namespace K11
open PySem PySem.Spec PyProof.Rows L2
local macro_rules | `(tactic| walk_at "w") => `(tactic| (first
  | (with_reducible refine ws_seq ?_)
  | (with_reducible refine ws_ret ?_)
  | (with_reducible refine ws_if ?_)
  | (with_reducible refine ws_asg ?_)
  | (with_reducible refine ws_break ?_)
  | (with_reducible refine ws_drop ?_)
  | (with_reducible refine we_var (by with_unfolding_all rfl) ?_)
  | (with_reducible refine we_int ?_)
  | (with_reducible refine we_str ?_)
  | (with_reducible refine we_bl ?_)
  | (with_reducible refine we_non ?_)
  | (with_reducible refine we_ty ?_)
  | (with_reducible refine we_cls ?_)
  | (with_reducible refine wa_cons ?_)
  | (with_reducible refine wa_nil ?_)
  | (with_reducible refine we_cb ?_)
  | (with_reducible refine vc_lenL ?_)
  | (with_reducible refine vc_lenT ?_)
  | (with_reducible refine v2_B0 ?_)
  | (with_reducible refine v2_I0 ?_)
  | (with_reducible refine we_call ?_)
  | (with_reducible refine we_op ?_)
  | (with_reducible refine we_tup ?_)
  | (with_reducible refine we_if ?_)
  | (with_reducible refine we_chain ?_)
  | (with_reducible refine wt_test ?_)
  | (with_reducible refine wt_B ?_)
  | (with_reducible refine wt_not ?_)
  | (with_reducible refine wt_or ?_)
  | (with_reducible refine wt_and ?_)))


/-! ### polygons, by places -/
def at_ (l : List Str) (i : Nat) : Str := l.getD i ""
theorem at_get {l : List Str} {i : Nat} (h : i < l.length) : l[i]? = some (at_ l i) := by
  unfold at_
  rw [List.getD_eq_getElem?_getD, List.getElem?_eq_getElem h]
  rfl
theorem at_mem {l : List Str} {i : Nat} (h : i < l.length) : at_ l i ∈ l := List.mem_of_getElem? (at_get h)
theorem at_inj {l : List Str} (nd : l.Nodup) {i j : Nat} (hi : i < l.length) (hj : j < l.length) (e : at_ l i = at_ l j) : i = j := by
  have a := at_get hi
  have b := at_get hj
  rw [e] at a
  obtain ⟨h1, h2⟩ := List.getElem?_eq_some_iff.mp a
  obtain ⟨h3, h4⟩ := List.getElem?_eq_some_iff.mp b
  exact (List.getElem_inj nd).mp (h2.trans h4.symm)
abbrev Iv := Nat × Nat
def sideI (n k : Nat) : Iv := if k = 0 then (0, n - 1) else (k - 1, k)
def lk (l : List Str) (c : Iv) : Lk := ordP (at_ l c.1, at_ l c.2)
structure Pg (n : Nat) (C W : List Iv) : Prop where
  c1 : ∀ c ∈ C, c.1 + 2 ≤ c.2 ∧ c.2 < n ∧ c ≠ (0, n - 1)
  cn : C.Nodup
  w1 : ∀ w ∈ W, w.1 < w.2 ∧ w.2 < n
  wp : W.Pairwise fun u v => u.2 ≤ v.1 ∨ v.2 ≤ u.1
  cw : ∀ c ∈ C, ∀ w ∈ W, w.1 ≤ c.1 → c.2 ≤ w.2 → c = w
def mW (W : List Iv) : Nat := (W.map fun w => 2 * (w.2 - w.1) - 1).sum
theorem mW_snoc (W : List Iv) (w : Iv) : mW (W ++ [w]) = mW W + (2 * (w.2 - w.1) - 1) := by simp [mW]
theorem Pg.pop {n : Nat} {C W : List Iv} {w : Iv} (G : Pg n C (W ++ [w])) : Pg n C W :=
  ⟨G.c1, G.cn, fun u hu => G.w1 u (List.mem_append_left _ hu), (List.pairwise_append.mp G.wp).1, fun c hc u hu => G.cw c hc u (List.mem_append_left _ hu)⟩
/-- the first half goes in -/
theorem Pg.left {n : Nat} {C W : List Iv} {lo m hi : Nat} (G : Pg n C (W ++ [(lo, hi)])) (h1 : lo < m) (h2 : m < hi) : Pg n C (W ++ [(lo, m)]) ∧ ((lo, m) ∉ C) ∧ (m - lo > 1 → Pg n (C ++ [(lo, m)]) (W ++ [(lo, m)])) := by
  obtain ⟨wa, _, wb⟩ := List.pairwise_append.mp G.wp
  have hh := G.w1 (lo, hi) (List.mem_append_right _ (List.mem_singleton.mpr rfl))
  have sep : ∀ u ∈ W, u.2 ≤ lo ∨ hi ≤ u.1 := fun u hu => wb u hu (lo, hi) (List.mem_singleton.mpr rfl)
  have own : ∀ c ∈ C, lo ≤ c.1 → c.2 ≤ hi → c = (lo, hi) := fun c hc a b => G.cw c hc (lo, hi) (List.mem_append_right _ (List.mem_singleton.mpr rfl)) a b
  have nC : (lo, m) ∉ C := fun z => by
    have := congrArg Prod.snd (own _ z (Nat.le_refl _) (Nat.le_of_lt h2))
    simp at this
    omega
  have base : Pg n C (W ++ [(lo, m)]) := by
    refine ⟨G.c1, G.cn, fun u hu => ?_, List.pairwise_append.mpr ⟨wa, by simp, fun u hu v hv => ?_⟩, fun c hc u hu a b => ?_⟩
    · rcases List.mem_append.mp hu with z | z
      · exact G.w1 u (List.mem_append_left _ z)
      · rw [List.mem_singleton.mp z]; exact ⟨h1, by have := hh.2; show m < n; omega⟩
    · rw [List.mem_singleton.mp hv]
      rcases sep u hu with z | z
      · exact .inl z
      · exact .inr (show m ≤ u.1 by omega)
    · rcases List.mem_append.mp hu with z | z
      · exact G.cw c hc u (List.mem_append_left _ z) a b
      · rw [List.mem_singleton.mp z] at a b ⊢
        have e := own c hc a (Nat.le_trans b (Nat.le_of_lt h2))
        rw [e] at b
        exact absurd b (by show ¬ hi ≤ m; omega)
  refine ⟨base, nC, fun hm => ⟨fun c hc => ?_, List.nodup_append.mpr ⟨G.cn, by simp, fun a ha b hb => by rw [List.mem_singleton.mp hb]; exact fun e => nC (e ▸ ha)⟩, base.w1, base.wp, fun c hc u hu a b => ?_⟩⟩
  · rcases List.mem_append.mp hc with z | z
    · exact G.c1 c z
    · rw [List.mem_singleton.mp z]
      refine ⟨by show lo + 2 ≤ m; omega, by have := hh.2; show m < n; omega, fun e => ?_⟩
      have := (Prod.mk.inj e).2
      have := hh.2
      simp at this
      omega
  · rcases List.mem_append.mp hc with z | z
    · exact base.cw c z u hu a b
    · rw [List.mem_singleton.mp z] at a b ⊢
      rcases List.mem_append.mp hu with y | y
      · have := G.w1 u (List.mem_append_left _ y)
        rcases sep u y with x | x
        · exact absurd b (by show ¬ m ≤ u.2; omega)
        · exact absurd a (by show ¬ u.1 ≤ lo; omega)
      · rw [List.mem_singleton.mp y]
/-- then the second -/
theorem Pg.right {n : Nat} {C W : List Iv} {lo m hi : Nat} (G : Pg n C (W ++ [(lo, m)])) (h1 : lo < m) (h2 : m < hi) (hn : hi < n) (nb : (m, hi) ≠ (0, n - 1)) (sep : ∀ u ∈ W, u.2 ≤ lo ∨ hi ≤ u.1) (own : ∀ c ∈ C, m ≤ c.1 → c.2 ≤ hi → False) : Pg n C ((W ++ [(lo, m)]) ++ [(m, hi)]) ∧ ((m, hi) ∉ C) ∧ (hi - m > 1 → Pg n (C ++ [(m, hi)]) ((W ++ [(lo, m)]) ++ [(m, hi)])) := by
  have nC : (m, hi) ∉ C := fun z => own _ z (Nat.le_refl _) (Nat.le_refl _)
  have sep2 : ∀ u ∈ W ++ [(lo, m)], u.2 ≤ m ∨ hi ≤ u.1 := fun u hu => by
    rcases List.mem_append.mp hu with z | z
    · rcases sep u z with y | y
      · exact .inl (by omega)
      · exact .inr y
    · rw [List.mem_singleton.mp z]; exact .inl (Nat.le_refl _)
  have base : Pg n C ((W ++ [(lo, m)]) ++ [(m, hi)]) := by
    refine ⟨G.c1, G.cn, fun u hu => ?_, List.pairwise_append.mpr ⟨G.wp, by simp, fun u hu v hv => ?_⟩, fun c hc u hu a b => ?_⟩
    · rcases List.mem_append.mp hu with z | z
      · exact G.w1 u z
      · rw [List.mem_singleton.mp z]; exact ⟨h2, hn⟩
    · rw [List.mem_singleton.mp hv]
      exact sep2 u hu
    · rcases List.mem_append.mp hu with z | z
      · exact G.cw c hc u z a b
      · rw [List.mem_singleton.mp z] at a b ⊢
        exact (own c hc a b).elim
  refine ⟨base, nC, fun hm => ⟨fun c hc => ?_, List.nodup_append.mpr ⟨G.cn, by simp, fun a ha b hb => by rw [List.mem_singleton.mp hb]; exact fun e => nC (e ▸ ha)⟩, base.w1, base.wp, fun c hc u hu a b => ?_⟩⟩
  · rcases List.mem_append.mp hc with z | z
    · exact G.c1 c z
    · rw [List.mem_singleton.mp z]
      exact ⟨by show m + 2 ≤ hi; omega, hn, nb⟩
  · rcases List.mem_append.mp hc with z | z
    · exact base.cw c z u hu a b
    · rw [List.mem_singleton.mp z] at a b ⊢
      rcases List.mem_append.mp hu with y | y
      · have := G.w1 u y
        rcases sep2 u y with x | x
        · exact absurd b (by show ¬ hi ≤ u.2; omega)
        · exact absurd a (by show ¬ u.1 ≤ m; omega)
      · rw [List.mem_singleton.mp y]
theorem lk_inj {l : List Str} (nd : l.Nodup) {c d : Iv} (hc : c.1 < c.2 ∧ c.2 < l.length) (hd : d.1 < d.2 ∧ d.2 < l.length) (e : lk l c = lk l d) : c = d := by
  have key : (at_ l c.1 = at_ l d.1 ∧ at_ l c.2 = at_ l d.2) ∨ (at_ l c.1 = at_ l d.2 ∧ at_ l c.2 = at_ l d.1) := by
    unfold lk at e
    rcases ordP_ends (at_ l c.1, at_ l c.2) with a | a <;> rcases ordP_ends (at_ l d.1, at_ l d.2) with b | b <;> rw [a, b] at e <;> have e1 := Prod.mk.inj e
    · exact .inl e1
    · exact .inr ⟨e1.1, e1.2⟩
    · exact .inr ⟨e1.2, e1.1⟩
    · exact .inl ⟨e1.2, e1.1⟩
  rcases key with ⟨a, b⟩ | ⟨a, b⟩
  · exact Prod.ext (at_inj nd (by omega) (by omega) a) (at_inj nd (by omega) (by omega) b)
  · have h1 := at_inj nd (by omega) (by omega) a
    have h2 := at_inj nd (by omega) (by omega) b
    omega
def sides (n : Nat) : List Iv := (List.range n).map (sideI n)
theorem sideI_ok {n k : Nat} (hn : 3 ≤ n) (hk : k < n) : (sideI n k).1 < (sideI n k).2 ∧ (sideI n k).2 < n := by
  unfold sideI
  split
  · exact ⟨by show 0 < n - 1; omega, by show n - 1 < n; omega⟩
  · exact ⟨by show k - 1 < k; omega, hk⟩
theorem fit_polygon {l : List Str} {C W : List Iv} (nd : l.Nodup) (hn : 3 ≤ l.length) (G : Pg l.length C W) : Fit l ((sides l.length ++ C).map (lk l)) := by
  have ok : ∀ c ∈ sides l.length ++ C, c.1 < c.2 ∧ c.2 < l.length := fun c hc => by
    rcases List.mem_append.mp hc with h | h
    · obtain ⟨k, hk, e⟩ := List.mem_map.mp h
      rw [← e]
      exact sideI_ok hn (List.mem_range.mp hk)
    · have := G.c1 c h
      exact ⟨by omega, this.2.1⟩
  refine ⟨?_, fun p hp => ?_⟩
  · refine List.pairwise_map.mpr (List.Pairwise.imp_of_mem (fun {a b} ha hb hne e => hne (lk_inj nd (ok a ha) (ok b hb) e)) (show (sides l.length ++ C).Nodup from ?_))
    refine List.nodup_append.mpr ⟨?_, G.cn, fun a ha b hb e => ?_⟩
    · refine List.pairwise_map.mpr (List.nodup_range.imp_of_mem fun {a b} ha hb hne e => hne ?_)
      have ha := List.mem_range.mp ha
      have hb := List.mem_range.mp hb
      unfold sideI at e
      split at e <;> split at e <;> have e1 := Prod.mk.inj e <;> omega
    · subst e
      obtain ⟨k, hk, e⟩ := List.mem_map.mp ha
      obtain ⟨c1, c2, c3⟩ := G.c1 a hb
      have hk := List.mem_range.mp hk
      unfold sideI at e
      split at e
      · exact c3 e.symm
      · rw [← e] at c1
        have : k - 1 + 2 ≤ k := c1
        omega
  · obtain ⟨c, hc, e⟩ := List.mem_map.mp hp
    obtain ⟨h1, h2⟩ := ok c hc
    rw [← e]
    exact ordP_fit (fun e => by have := at_inj nd (by omega) h2 e; omega) (at_mem (by omega)) (at_mem h2)
def wD (W : List Iv) : List D := W.map fun w => .tup [.int (w.1 : Nat), .int (w.2 : Nat)]
theorem wD_ok (n : Nat) : ∀ W : List Iv, D.okAll (n + 1) (wD W) = true
  | [] => rfl
  | w :: W => by
    show (D.ok (n + 1) (.tup [.int _, .int _]) && D.okAll (n + 1) (wD W)) = true
    rw [wD_ok n W]
    simp [D.ok, D.okAll]
theorem wD_nob : ∀ W : List Iv, D.nobAll (wD W) = true
  | [] => rfl
  | w :: W => by
    show ((D.tup [.int _, .int _]).nob && D.nobAll (wD W)) = true
    rw [wD_nob W]
    rfl
section
variable {P : Program} {w : World} {K : PySem.W.Frag} {mg : Str → Option Value} {base : Heap} {C : Addr}

def pgC (l : List Str) (n : Nat) (C W : List Iv) (lo hi mid : Nat) (e9 e10 : Ent) : Ctx := [.da .pot, .da (.lst (sS l)), .da (.int (n : Nat)), .ow (dPs ((sides n ++ C).map (lk l))), .ow (wD W), .da (.int (lo : Nat)), .da (.int (hi : Nat)), .da (.int (mid : Nat)), .no, e9, e10]
/-- one turn of the inner loop -/
theorem poly_turn {B : Bs} {l : List Str} {n lo hi mid a b : Nat} {C W : List Iv} {Po : Po} (hnl : l.length = n) (nd : l.Nodup) (hab : a < b) (hb : b < n) (hC : C.length ≤ 100) (hW : W.length ≤ 1000) (hn : n ≤ 6)
    (q : ∀ C3, (C3 = C ∨ (b - a > 1 ∧ C3 = C ++ [(a, b)])) → Po.nx (pgC l n C3 (W ++ [(a, b)]) lo hi mid (.da (.int (a : Nat))) (.da (.int (b : Nat))))) :
    WS B (tSeq (tDrop (tBM B.W.K "list" rAppend (tVar 4) (tCons (tTup (tCons (tVar 9) (tCons (tVar 10) tNil))) tNil))) (tIfS (tAnd (tTest (tOp (rI0 fun i j => V.bl (decide (j < i))) (tOp (rI0 fun i j => V.int (i - j)) (tVar 10) (tVar 9)) (tC (V.int 1))))
      (tTest (tOp rEq (tCall (SpD B.W.K B.W.C preDraw postDraw) [] E0 (tCons (tVar 0) (tCons (tC (V.int 2)) tNil))) (tC (V.int 0))))) (tDrop (tBM B.W.K "list" rAppend (tVar 3) (tCons (tCall (SpD B.W.K B.W.C (fun ds => ∃ a b : Str, ds = [D.str a, D.str b]) fun ds r => ∀ a b : Str, ds = [D.str a, D.str b] → r = dP (ordP (a, b))) [] E0
      (tCons (tOp (rIxL B.W.K) (tVar 1) (tVar 9)) (tCons (tOp (rIxL B.W.K) (tVar 1) (tVar 10)) tNil))) tNil))) tNext))
      (pgC l n C W lo hi mid (.da (.int (a : Nat))) (.da (.int (b : Nat)))) Po := by
  refine ws_seq (ws_append (i := 4) rfl ?_)
  repeat (walk_at "w")
  refine ⟨by show (2 : Nat) ≤ 1000; decide, by simp [wD]; omega, ?_⟩
  have skip : WS B tNext (pgC l n C (W ++ [(a, b)]) lo hi mid (.da (.int (a : Nat))) (.da (.int (b : Nat)))) Po := ws_next (q C (.inl rfl))
  rw [show wD W ++ [D.tup [.int (a : Nat), .int (b : Nat)]] = wD (W ++ [(a, b)]) by simp [wD]]
  show WS _ _ (pgC l n C (W ++ [(a, b)]) lo hi mid (.da (.int (a : Nat))) (.da (.int (b : Nat)))) _
  unfold pgC at skip ⊢
  repeat (walk_at "w")
  refine ⟨_, rfl, fun h => ?_, fun h => ⟨fun z => (nomatch z), fun _ => skip⟩⟩
  have h' : b - a > 1 := by have := of_decide_eq_true h; omega
  repeat (walk_at "w")
  refine ⟨⟨2, rfl, by omega, by omega⟩, fun d hd => ?_⟩
  obtain ⟨j, rfl, _, _⟩ := hd _ rfl
  repeat (walk_at "w")
  refine v2_eqII ⟨_, rfl, fun _ => ?_, fun _ => skip⟩
  have gs : ∀ j, j < n → (sS l)[j]? = some (.str (at_ l j)) := fun j hj => by
    unfold sS
    rw [List.getElem?_map, at_get (by omega)]
    rfl
  have ix : ∀ j : Nat, j < n → ixN (sS l).length (j : Int) = some j := fun j hj => by
    rw [sS_len, hnl]
    unfold ixN
    rw [if_pos (by omega), if_pos (by omega)]
    simp
  refine ws_append (i := 3) rfl ?_
  repeat (walk_at "w")
  refine v2_ixL (j := a) (ix a (by omega)) (gs a (by omega)) ?_
  repeat (walk_at "w")
  refine v2_ixL (j := b) (ix b hb) (gs b hb) ?_
  repeat (walk_at "w")
  refine ⟨⟨_, _, rfl⟩, fun r hr => ?_⟩
  rw [hr _ _ rfl]
  refine ⟨by simp [dPs, sides]; omega, ?_⟩
  have := q (C ++ [(a, b)]) (.inr ⟨h', rfl⟩)
  rw [show dPs ((sides n ++ C).map (lk l)) ++ [dP (ordP (at_ l a, at_ l b))] = dPs ((sides n ++ (C ++ [(a, b)])).map (lk l)) by simp [dPs, lk]]
  exact this

abbrev sPolygon : Stmt := top 38
abbrev nPolygon : List Str := ["_law_pot_here", "_law_labels", "_law_size", "_law_found", "_law_waiting", "_law_low", "_law_high", "_law_middle", "_law_k", "_law_this", "_law_mate"]
theorem scPolygon : FnScope nPolygon ["_law_pot_here", "_law_labels"] (defScope sPolygon) := ⟨rfl, rfl, rfl, by decide +kernel, rfl, by decide +kernel, by decide +kernel⟩
def prePoly : List D → Prop := fun ds => ∃ l : List Str, ds = [.pot, .lst (sS l)] ∧ l.Nodup ∧ 3 ≤ l.length ∧ l.length ≤ 6
def postPoly : List D → List D → Prop := fun ds r => ∀ l, ds = [.pot, .lst (sS l)] → ∃ q, r = dPs q ∧ Fit l q ∧ q.length ≤ 24
theorem cl_polygon (F : Fd K mg "_law_polygon" ["_law_pot_here", "_law_labels"] sPolygon) (M : Mb mg) (c_draw : CDraw P w K mg base C) (c_link : CLink P w K mg base C) :
    Cl P w K mg base 2 "_law_polygon" ["_law_pot_here", "_law_labels"] (SpO K C prePoly postPoly) := F.cl fun f fd F => by
  refine fnO F scPolygon (fun ds ⟨_, e, _⟩ => by rw [e]; rfl) fun cdv A outer s H E hr => ?_
  refine ⟨_, (pss_cons (ps_set (i := 2) scPolygon.nd rfl (by first | exact Or.inl rfl | exact Or.inr rfl) (pe_callB call_len2 (by rfl) M.len PySem.boot_len (pa_cons (pv 1) pa_nil)))
    (pss_cons (ps_par (i := 3) (j := 4) (by rfl) scPolygon.nd rfl rfl (by decide) rfl rfl (pa_cons (pe_lc (own := [("_law_k", 8)]) (by rfl) scPolygon.nd (pi_range1 (by rfl) M.range (pa_cons (pv 2) pa_nil)) (blkOk_by (N := nPolygon) (sc := defScope sPolygon) (by decide +kernel)) (fun _ _ _ _ _ => (pg_name (i := 8) scPolygon.nd rfl (by first | exact Or.inl rfl | exact Or.inr rfl))) (fun _ _ _ _ _ => pts_nil) (fun _ _ _ _ _ => (by exact pcl c_link (hr.mono (by decide)) (pa_cons (pe_ix (ix_listK (K := K) rfl) (pv 1) (pe_op op_sub (pv 8) pe_int) (fun _ _ => rfl)) (pa_cons (pe_ix (ix_listK (K := K) rfl) (pv 1) (pv 8) (fun _ _ => rfl)) pa_nil))))) (pa_cons (pe_lst (pa_cons (pe_tup (pa_cons pe_int (pa_cons (pe_op op_sub (pv 2) pe_int) pa_nil))) pa_nil)) pa_nil)) (by rfl))
    (pss_cons (ps_while PassesOwn.never (pt_cmpR (op_neD hr.units) (pv 4) (pe_lst pa_nil) (nomark _)) (pss_cons (ps_asg (pe_bm0 PySem.F.plainAttrs_list PySem.F.slot_list_pop PySem.F.type_list_pop mt_pop (pv 4)) (pg_tup (by rfl) (pgs_cons (pg_name (i := 5) scPolygon.nd rfl (by first | exact Or.inl rfl | exact Or.inr rfl)) (pgs_cons (pg_name (i := 6) scPolygon.nd rfl (by first | exact Or.inl rfl | exact Or.inr rfl)) pgs_nil))))
    (pss_one (ps_if (pt_cmpR op_gt (pe_op op_sub (pv 6) (pv 5)) pe_int (nomark _)) (pss_cons (ps_set (i := 7) scPolygon.nd rfl (by first | exact Or.inl rfl | exact Or.inr rfl) (pe_op op_add (pe_op op_add (pv 5) pe_int) (pcl c_draw (hr.mono (by decide)) (pa_cons (pv 0) (pa_cons (pe_op op_sub (pe_op op_sub (pv 6) (pv 5)) pe_int) pa_nil)))))
    (pss_one (ps_for PassesOwn.never rfl (pi_list (pe_lst (pa_cons (pe_tup (pa_cons (pv 5) (pa_cons (pv 7) pa_nil))) (pa_cons (pe_tup (pa_cons (pv 7) (pa_cons (pv 6) pa_nil))) pa_nil)))) (pg_tup (by rfl) (pgs_cons (pg_name (i := 9) scPolygon.nd rfl (by first | exact Or.inl rfl | exact Or.inr rfl)) (pgs_cons (pg_name (i := 10) scPolygon.nd rfl (by first | exact Or.inl rfl | exact Or.inr rfl)) pgs_nil))) (pss_cons (ps_expr (pe_bm PySem.F.plainAttrs_list PySem.F.slot_list_append PySem.F.type_list_append mt_append (pv 4) (pa_cons (pe_tup (pa_cons (pv 9) (pa_cons (pv 10) pa_nil))) pa_nil)))
    (pss_one (ps_if (PW.pt (pw_and (pt_cmpR op_gt (pe_op op_sub (pv 10) (pv 9)) pe_int (nomark _)) (pw_and1 (pt_cmpR op_eq (pcl c_draw (hr.mono (by decide)) (pa_cons (pv 0) (pa_cons pe_int pa_nil))) pe_int (nomark _))))) (pss_one (ps_expr (pe_bm PySem.F.plainAttrs_list PySem.F.slot_list_append PySem.F.type_list_append mt_append (pv 3) (pa_cons (pcl c_link (hr.mono (by decide)) (pa_cons (pe_ix ix_list (pv 1) (pv 9) (fun _ _ => rfl)) (pa_cons (pe_ix ix_list (pv 1) (pv 10) (fun _ _ => rfl)) pa_nil))) pa_nil)))) pss_nil)))))) pss_nil))))
    (pss_one (ps_ret (pv 3)))))), fun pot old M H ds hp => ?_⟩
  obtain ⟨l, rfl, nd, n3, n6⟩ := hp
  dsimp only [cxOf, Cx.nox, Cx.wish]
  show WS _ _ [.da .pot, .da (.lst (sS l)), .no, .no, .no, .no, .no, .no, .no, .no, .no] _
  generalize hnl : l.length = n at n3 n6
  repeat (walk_at "w")
  rw [sS_len, hnl]
  refine wg_name ?_
  show WS _ _ [.da .pot, .da (.lst (sS l)), .da (.int (n : Nat)), .no, .no, .no, .no, .no, .no, .no, .no] _
  refine ws_seq (ws_par2 (wf_ow (wo_lc (go_name (by simp)) (wi_range1 ?_))))
  repeat (walk_at "w")
  refine ⟨n, rfl, by omega, by omega, by rw [intsD_len]; omega, fun i acc => acc = dPs (((List.range i).map (sideI n)).map (lk l)), rfl, ?_, ?_⟩
  · rintro i d acc hd rfl
    obtain ⟨rfl, hi⟩ := intsD_inv hd
    have hi' : i < n := by simpa using hi
    refine wg_name (wt_yes ⟨fun _ => ?_, fun h => nomatch h⟩)
    show WE _ _ [.da .pot, .da (.lst (sS l)), .da (.int (n : Nat)), .no, .no, .no, .no, .no, .da (.int (i : Nat)), .no, .no] _
    have gs : ∀ j, j < n → (sS l)[j]? = some (.str (at_ l j)) := fun j hj => by
      unfold sS
      rw [List.getElem?_map, at_get (by omega)]
      rfl
    have fin : ∀ r : D, (∀ a b : Str, [D.str (at_ l (if i = 0 then n - 1 else i - 1)), D.str (at_ l i)] = [.str a, .str b] → r = dP (ordP (a, b))) → dPs (((List.range i).map (sideI n)).map (lk l)) ++ [r] = dPs (((List.range (i + 1)).map (sideI n)).map (lk l)) := fun r hr' => by
      rw [hr' _ _ rfl, List.range_succ, List.map_append, List.map_append]
      have e : ordP (at_ l (if i = 0 then n - 1 else i - 1), at_ l i) = lk l (sideI n i) := by
        unfold lk sideI
        by_cases h : i = 0
        · subst h
          rw [if_pos rfl, if_pos rfl]
          exact (ordP_flip (at_ l (n - 1), at_ l 0)).symm
        · rw [if_neg h, if_neg h]
      rw [e]
      simp [dPs]
    repeat (walk_at "w")
    refine v2_ixL (j := if i = 0 then n - 1 else i - 1) ?_ (gs _ (by split <;> omega)) ?_
    · rw [sS_len, hnl]
      unfold ixN
      by_cases h : i = 0
      · subst h
        rw [if_neg (by omega), if_pos (by omega)]
        simp
        omega
      · rw [if_pos (by omega), if_pos (by omega), if_neg h]
        congr 1
        omega
    repeat (walk_at "w")
    refine v2_ixL (j := i) ?_ (gs i hi') ?_
    · rw [sS_len, hnl]
      unfold ixN
      rw [if_pos (by omega), if_pos (by omega)]
      simp
    repeat (walk_at "w")
    exact ⟨⟨_, _, rfl⟩, fun r hr' => (fin r hr').symm ▸ rfl⟩
  rintro acc rfl
  rw [intsD_len]
  refine wf_ow (wo_lst ?_)
  repeat (walk_at "w")
  refine ⟨by show (2 : Nat) ≤ 1000; decide, ?_⟩
  repeat (walk_at "w")
  refine ⟨by show (1 : Nat) ≤ 1000; decide, ?_⟩
  have e0 : ((n : Int)).toNat = n := by simp
  rw [e0, show [D.tup [.int 0, .int ((n : Nat) - 1 : Int)]] = wD [(0, n - 1)] by unfold wD; simp; omega]
  show WS _ _ [.da .pot, .da (.lst (sS l)), .da (.int (n : Nat)), .ow (dPs ((sides n).map (lk l))), .ow (wD [(0, n - 1)]), .no, .no, .no, .no, .no, .no] _
  refine ws_seq (ws_while (fun m Γ1 => ∃ C W e5 e6 e7 e9 e10, Γ1 = [.da .pot, .da (.lst (sS l)), .da (.int (n : Nat)), .ow (dPs ((sides n ++ C).map (lk l))), .ow (wD W), e5, e6, e7, .no, e9, e10] ∧ Pg n C W ∧ m = mW W ∧ C.length + 2 * mW W ≤ 18) (2 * (n - 1 - 0) - 1 + 0) ⟨[], [(0, n - 1)], _, _, _, _, _, by rw [List.append_nil], ⟨fun _ h => (nomatch h), List.nodup_nil, fun w hw => by rw [List.mem_singleton.mp hw]; exact ⟨by show 0 < n - 1; omega, by show n - 1 < n; omega⟩, by simp, fun _ h => (nomatch h)⟩, rfl, by simp [mW] <;> omega⟩ ?_)
  rintro m Γ1 ⟨C1, W, e5, e6, e7, e9, e10, rfl, G, rfl, cl⟩
  refine seeT (i := 4) rfl (.ow _) ?_
  show WT _ _ [.da .pot, .da (.lst (sS l)), .da (.int (n : Nat)), .ow (dPs ((sides n ++ C1).map (lk l))), .da (.lst (wD W)), e5, e6, e7, .no, e9, e10] _
  repeat (walk_at "w")
  refine WO.we (wo_lst (wa_nil ⟨by decide, ?_⟩))
  refine v2_neD (wD_ok 8 W) rfl (wD_nob W) rfl fun b hb => ⟨_, rfl, fun h => ?_, fun h => ?_⟩
  · have hne : W ≠ [] := fun z => by
      subst z
      rw [hb.mpr rfl] at h
      cases h
    obtain ⟨W0, ⟨lo, hi⟩, rfl⟩ : ∃ W0 w, W = W0 ++ [w] := ⟨W.dropLast, W.getLast hne, (List.dropLast_concat_getLast hne).symm⟩
    have hw := G.w1 (lo, hi) (List.mem_append_right _ (List.mem_singleton.mpr rfl))
    have hlh : lo < hi := hw.1
    have hin : hi < n := hw.2
    have em := mW_snoc W0 (lo, hi)
    have em' : mW (W0 ++ [(lo, hi)]) = mW W0 + (2 * (hi - lo) - 1) := em
    refine ws_seq (ws_pop (i := 4) (l := wD (W0 ++ [(lo, hi)])) (d := .tup [.int (lo : Nat), .int (hi : Nat)]) rfl (by simp [wD]) (wg_tup2 (wg_name (wg_name ?_))))
    rw [show (wD (W0 ++ [(lo, hi)])).dropLast = wD W0 by simp [wD]]
    show WS _ _ [.da .pot, .da (.lst (sS l)), .da (.int (n : Nat)), .ow (dPs ((sides n ++ C1).map (lk l))), .ow (wD W0), .da (.int (lo : Nat)), .da (.int (hi : Nat)), e7, .no, e9, e10] _
    repeat (walk_at "w")
    refine ⟨_, rfl, fun h1 => ?_, fun h1 => ws_next ⟨mW W0, by omega, C1, W0, _, _, _, _, _, rfl, G.pop, rfl, by omega⟩⟩
    have h1' : lo + 2 ≤ hi := by have := of_decide_eq_true h1; omega
    repeat (walk_at "w")
    refine ⟨⟨(hi : Int) - lo - 1, rfl, by omega, by omega⟩, fun d hd => ?_⟩
    obtain ⟨j, rfl, j0, j1⟩ := hd _ rfl
    refine v2_I0 (wg_name ?_)
    obtain ⟨mid, hm⟩ : ∃ mid : Nat, (lo : Int) + 1 + j = mid := ⟨((lo : Int) + 1 + j).toNat, by omega⟩
    rw [hm]
    have hm1 : lo < mid := by omega
    have hm2 : mid < hi := by omega
    obtain ⟨GL, nL, GL2⟩ := G.left hm1 hm2
    have sep : ∀ u ∈ W0, u.2 ≤ lo ∨ hi ≤ u.1 := fun u hu => (List.pairwise_append.mp G.wp).2.2 u hu (lo, hi) (List.mem_singleton.mpr rfl)
    have own0 : ∀ c ∈ C1, mid ≤ c.1 → c.2 ≤ hi → False := fun c hc a b => by
      have e := G.cw c hc (lo, hi) (List.mem_append_right _ (List.mem_singleton.mpr rfl)) (by show lo ≤ c.1; omega) b
      rw [e] at a
      exact absurd a (by show ¬ mid ≤ lo; omega)
    show WS _ _ [.da .pot, .da (.lst (sS l)), .da (.int (n : Nat)), .ow (dPs ((sides n ++ C1).map (lk l))), .ow (wD W0), .da (.int (lo : Nat)), .da (.int (hi : Nat)), .da (.int (mid : Nat)), .no, e9, e10] _
    have wl : W0.length ≤ 100 := by
      have : ∀ W : List Iv, (∀ w ∈ W, w.1 < w.2) → W.length ≤ mW W := fun W => by
        induction W with
        | nil => intro _; exact Nat.zero_le _
        | cons w W ih =>
          intro h
          have h1 := h w List.mem_cons_self
          have h2 := ih fun u hu => h u (List.mem_cons_of_mem _ hu)
          show W.length + 1 ≤ (2 * (w.2 - w.1) - 1) + mW W
          omega
      have := this W0 fun u hu => (G.w1 u (List.mem_append_left _ hu)).1
      omega
    refine ws_for (wi_list (WO.we (wo_lst ?_)))
    repeat (walk_at "w")
    refine ⟨by show (2 : Nat) ≤ 1000; decide, ?_⟩
    repeat (walk_at "w")
    refine ⟨by show (2 : Nat) ≤ 1000; decide, ?_⟩
    repeat (walk_at "w")
    refine ⟨by show (2 : Nat) ≤ 1000; decide, _, rfl, fun i Γ1 => match i with
      | 0 => ∃ e9 e10, Γ1 = pgC l n C1 W0 lo hi mid e9 e10
      | 1 => ∃ C3 e9 e10, Γ1 = pgC l n C3 (W0 ++ [(lo, mid)]) lo hi mid e9 e10 ∧ (C3 = C1 ∨ (mid - lo > 1 ∧ C3 = C1 ++ [(lo, mid)]))
      | 2 => ∃ m, m < mW (W0 ++ [(lo, hi)]) ∧ ∃ C W e5 e6 e7 e9 e10, Γ1 = [.da .pot, .da (.lst (sS l)), .da (.int (n : Nat)), .ow (dPs ((sides n ++ C).map (lk l))), .ow (wD W), e5, e6, e7, .no, e9, e10] ∧ Pg n C W ∧ m = mW W ∧ C.length + 2 * mW W ≤ 18
      | _ => False, ⟨e9, e10, rfl⟩, ?_, fun Γ1 h => h⟩
    rintro i d Γ1 hd hI
    match i, hd, hI with
    | 0, hd, ⟨e9, e10, e⟩ =>
      subst e
      cases hd
      refine wg_tup2 (wg_name (wg_name ?_))
      refine poly_turn hnl nd hm1 (by omega) (by omega) (by omega) n6 (fun C3 h3 => ⟨C3, _, _, rfl, h3⟩)
    | 1, hd, ⟨C3, e9, e10, e, h3⟩ =>
      subst e
      cases hd
      refine wg_tup2 (wg_name (wg_name ?_))
      have mh : mW (W0 ++ [(lo, mid)]) = mW W0 + (2 * (mid - lo) - 1) := mW_snoc W0 (lo, mid)
      have mh2 : mW (W0 ++ [(lo, mid)] ++ [(mid, hi)]) = mW (W0 ++ [(lo, mid)]) + (2 * (hi - mid) - 1) := mW_snoc _ (mid, hi)
      have G3 : Pg n C3 (W0 ++ [(lo, mid)]) ∧ C3.length ≤ C1.length + 1 ∧ ∀ c ∈ C3, mid ≤ c.1 → c.2 ≤ hi → False := by
        rcases h3 with rfl | ⟨h3, rfl⟩
        · exact ⟨GL, by omega, own0⟩
        · refine ⟨GL2 h3, by simp, fun c hc a b => ?_⟩
          rcases List.mem_append.mp hc with z | z
          · exact own0 c z a b
          · rw [List.mem_singleton.mp z] at a; exact absurd a (by show ¬ mid ≤ lo; omega)
      obtain ⟨G3, l3, own3⟩ := G3
      obtain ⟨GR, nR, GR2⟩ := G3.right hm1 hm2 hin (fun e => by have := (Prod.mk.inj e).1; omega) sep own3
      refine poly_turn hnl nd hm2 hin (by omega) (by rw [List.length_append]; simp; omega) n6 fun C4 h4 => ?_
      refine ⟨mW (W0 ++ [(lo, mid)] ++ [(mid, hi)]), by omega, C4, W0 ++ [(lo, mid)] ++ [(mid, hi)], _, _, _, _, _, rfl, ?_, rfl, ?_⟩
      · rcases h4 with rfl | ⟨h4, rfl⟩
        · exact GR
        · exact GR2 h4
      · have : C4.length ≤ C3.length + 1 := by rcases h4 with rfl | ⟨h4, rfl⟩ <;> simp
        omega
  · have hb' : b = true := by simpa using h
    have e : W = [] := by
      have := D.lst.inj (hb.mp hb')
      cases W with
      | nil => rfl
      | cons _ _ => cases this
    subst e
    refine ws_retV (i := 3) rfl fun l' e => ?_
    have e1 := sS_inj.mp (D.lst.inj (List.cons.inj (List.cons.inj e).2).1)
    subst e1
    refine ⟨_, rfl, ?_, ?_⟩
    · have := fit_polygon nd (by omega) (hnl ▸ G)
      rwa [hnl] at this
    · simp [sides]
      omega

theorem Fit.join {l fr : List Str} {q q2 : List Lk} {a : Str} (F : Fit l q) (F2 : Fit (a :: fr) q2) (ha : a ∈ l) (dj : ∀ s ∈ fr, s ∉ l) : Fit (l ++ fr) (q ++ q2) := by
  refine ⟨List.nodup_append.mpr ⟨F.pn, F2.pn, fun x hx y hy e => ?_⟩, fun p hp => ?_⟩
  · subst e
    obtain ⟨_, ne, m1, m2⟩ := F2.pk x hy
    obtain ⟨_, _, k1, k2⟩ := F.pk x hx
    rcases List.mem_cons.mp m1 with e1 | m1
    · rcases List.mem_cons.mp m2 with e2 | m2
      · exact ne (e1.trans e2.symm)
      · exact dj _ m2 k2
    · exact dj _ m1 k1
  · rcases List.mem_append.mp hp with h | h
    · obtain ⟨o, ne, k1, k2⟩ := F.pk p h
      exact ⟨o, ne, List.mem_append_left _ k1, List.mem_append_left _ k2⟩
    · obtain ⟨o, ne, k1, k2⟩ := F2.pk p h
      have up : ∀ s, s ∈ a :: fr → s ∈ l ++ fr := fun s hs => by
        rcases List.mem_cons.mp hs with e | hs
        · rw [e]; exact List.mem_append_left _ ha
        · exact List.mem_append_right _ hs
      exact ⟨o, ne, up _ k1, up _ k2⟩
abbrev sOutside : Stmt := top 39
abbrev nOutside : List Str := ["_law_pot_here", "_law_most", "_law_turn", "_law_spots", "_law_pairs", "_law_more", "_law_fresh", "_law_ends"]
theorem scOutside : FnScope nOutside ["_law_pot_here", "_law_most"] (defScope sOutside) := ⟨rfl, rfl, rfl, by decide +kernel, rfl, by decide +kernel, by decide +kernel⟩
theorem cl_outside (F : Fd K mg "_law_outside" ["_law_pot_here", "_law_most"] sOutside) (M : Mb mg) (c_draw : CDraw P w K mg base C) (c_pick : CPick P w K mg base C) (c_named : CNamed P w K mg base C) (c_link : CLink P w K mg base C)
    (c_polygon : Cl P w K mg base 2 "_law_polygon" ["_law_pot_here", "_law_labels"] (SpO K C prePoly postPoly)) :
    Cl P w K mg base 3 "_law_outside" ["_law_pot_here", "_law_most"] (SpD K C (fun ds => ds = [.pot, .int 9]) fun _ d => ModR 9 96 d) := F.cl fun f fd F => by
  refine fnD F scOutside (fun ds e => by rw [e]; rfl) fun cdv A outer s H E hr => ?_
  refine ⟨_, (pss_cons (ps_par (i := 3) (j := 4) (by rfl) scOutside.nd rfl rfl (by decide) rfl rfl (pa_cons (pcl c_named (hr.mono (by decide)) (pa_cons (pv 0) (pa_cons pe_int (pa_cons (pe_lst pa_nil) pa_nil)))) (pa_cons (pe_lst pa_nil) pa_nil)) (by rfl))
    (pss_cons (ps_for PassesOwn.never rfl (pi_range1 (by rfl) M.range (pa_cons (pcl c_draw (hr.mono (by decide)) (pa_cons (pv 0) (pa_cons pe_int pa_nil))) pa_nil)) (pg_name (i := 2) scOutside.nd rfl (by first | exact Or.inl rfl | exact Or.inr rfl)) (pss_cons (ps_set (i := 5) scOutside.nd rfl (by first | exact Or.inl rfl | exact Or.inr rfl) (pe_op op_add pe_int (pe_op op_mul (pcl c_draw (hr.mono (by decide)) (pa_cons (pv 0) (pa_cons pe_int pa_nil))) (pe_op op_add pe_int (pcl c_draw (hr.mono (by decide)) (pa_cons (pv 0) (pa_cons pe_int pa_nil)))))))
    (pss_one (ps_if (pt_cmpR op_le (pe_op op_add (pe_callB call_len2 (by rfl) M.len PySem.boot_len (pa_cons (pv 3) pa_nil)) (pv 5)) (pv 1) (nomark _)) (pss_cons (ps_set (i := 6) scOutside.nd rfl (by first | exact Or.inl rfl | exact Or.inr rfl) (pcl c_named (hr.mono (by decide)) (pa_cons (pv 0) (pa_cons (pv 5) (pa_cons (pv 3) pa_nil)))))
    (pss_cons (ps_if (pt_cmpR op_gt (pcl c_draw (hr.mono (by decide)) (pa_cons (pv 0) (pa_cons pe_int pa_nil))) pe_int (nomark _)) (pss_cons (ps_set (i := 7) scOutside.nd rfl (by first | exact Or.inl rfl | exact Or.inr rfl) (pe_op op_cat (pe_lst (pa_cons (pcl c_pick (hr.mono (by decide)) (pa_cons (pv 0) (pa_cons (pv 3) pa_nil))) pa_nil)) (pv 6)))
    (pss_one (ps_if (pt_cmpR op_eq (pv 5) pe_int (nomark _)) (pss_one (ps_expr (pe_bm PySem.F.plainAttrs_list PySem.F.slot_list_append PySem.F.type_list_append mt_append (pv 4) (pa_cons (pcl c_link (hr.mono (by decide)) (pa_cons (pe_ix ix_list (pv 7) pe_int (fun _ _ => rfl)) (pa_cons (pe_ix ix_list (pv 7) pe_int (fun _ _ => rfl)) pa_nil))) pa_nil)))) (pss_one (ps_expr (pe_bm PySem.F.plainAttrs_list PySem.F.slot_list_extend PySem.F.type_list_extend mt_extend (pv 4) (pa_cons (pcl c_polygon (hr.mono (by decide)) (pa_cons (pv 0) (pa_cons (pv 7) pa_nil))) pa_nil))))))) pss_nil)
    (pss_one (ps_set (i := 3) scOutside.nd rfl (by first | exact Or.inl rfl | exact Or.inr rfl) (pe_op op_cat (pv 3) (pv 6)))))) pss_nil))))
    (pss_one (ps_ret (pe_disp (pps_cons pe_str (pe_callB (call_srt rfl) (by rfl) M.sorted (by decide +kernel) (pa_cons (pv 3) pa_nil)) (pps_cons pe_str (pe_callB (call_srt rfl) (by rfl) M.sorted (by decide +kernel) (pa_cons (pv 4) pa_nil)) pps_nil)) (by rfl) (by rfl) (fun z => by cases z) (by decide)))))), fun pot old M H ds hp => ?_⟩
  subst hp
  dsimp only [cxOf, Cx.nox, Cx.wish]
  show WS _ _ [.da .pot, .da (.int 9), .no, .no, .no, .no, .no, .no] _
  refine ws_seq (ws_par2 (wf_da (WO.we (wo_call ?_))))
  repeat (walk_at "w")
  refine WO.we (wo_lst (wa_nil ⟨by decide, ?_⟩))
  repeat (walk_at "w")
  refine ⟨⟨1, [], rfl, by omega, by decide⟩, fun r hr' => ?_⟩
  obtain ⟨l, rfl, ll, nd, ok⟩ := hr' 1 [] rfl
  refine wf_ow (wo_lst (wa_nil ⟨by decide, ?_⟩))
  show WS _ _ [.da .pot, .da (.int 9), .no, .da (.lst (sS l)), .ow (dPs []), .no, .no, .no] _
  refine ws_seq (ws_for (wi_range1 ?_))
  repeat (walk_at "w")
  refine ⟨⟨5, rfl, by omega, by omega⟩, fun d hd => ?_⟩
  obtain ⟨t, rfl, t0, t1⟩ := hd _ rfl
  repeat (walk_at "w")
  refine ⟨t, rfl, by omega, by omega, fun i Γ1 => ∃ l q e2 e5 e6 e7, Γ1 = [.da .pot, .da (.int 9), e2, .da (.lst (sS l)), .ow (dPs q), e5, e6, e7] ∧ l.Nodup ∧ 1 ≤ l.length ∧ l.length ≤ 9 ∧ (∀ s ∈ l, nameS s) ∧ Fit l q ∧ q.length ≤ 24 * i, ⟨l, [], _, _, _, _, rfl, nd, by omega, by omega, fun s hs => (ok s hs).1, Fit.nil l, Nat.zero_le _⟩, ?_, ?_⟩
  · rintro i d Γ1 hd ⟨l, q, e2, e5, e6, e7, rfl, nd, l1, l9, ok, Fq, ql⟩
    obtain ⟨rfl, hi⟩ := intsD_inv hd
    have hi' : i < 5 := by omega
    refine wg_name ?_
    show WS _ _ [.da .pot, .da (.int 9), .da (.int (i : Nat)), .da (.lst (sS l)), .ow (dPs q), e5, e6, e7] _
    repeat (walk_at "w")
    refine ⟨⟨2, rfl, by omega, by omega⟩, fun d hd => ?_⟩
    obtain ⟨x, rfl, x0, x1⟩ := hd _ rfl
    repeat (walk_at "w")
    refine ⟨⟨4, rfl, by omega, by omega⟩, fun d hd => ?_⟩
    obtain ⟨y, rfl, y0, y1⟩ := hd _ rfl
    refine v2_I0 (v2_I (.inl ⟨by omega, by omega⟩) (v2_I0 (wg_name ?_)))
    obtain ⟨mo, hm, m1, m5⟩ : ∃ mo : Nat, (1 : Int) + x * (1 + y) = mo ∧ 1 ≤ mo ∧ mo ≤ 5 := by
      rcases (show x = 0 ∨ x = 1 by omega) with e | e
      · subst e; exact ⟨1, by omega, by omega, by omega⟩
      · subst e; exact ⟨(2 + y).toNat, by omega, by omega, by omega⟩
    rw [hm]
    show WS _ _ [.da .pot, .da (.int 9), .da (.int (i : Nat)), .da (.lst (sS l)), .ow (dPs q), .da (.int (mo : Nat)), e6, e7] _
    repeat (walk_at "w")
    rw [sS_len]
    refine ⟨_, rfl, fun h => ?_, fun h => ws_next ⟨l, q, _, _, _, _, rfl, nd, l1, l9, ok, Fq, by omega⟩⟩
    have hl : l.length + mo ≤ 9 := by have := of_decide_eq_true h; omega
    refine ws_seq (ws_asg (WO.we (wo_call ?_)))
    repeat (walk_at "w")
    refine ⟨⟨mo, l, rfl, by omega, by omega⟩, fun r hr' => ?_⟩
    obtain ⟨fr, rfl, fl, fnd, fok⟩ := hr' mo l rfl
    refine wg_name ?_
    show WS _ _ [.da .pot, .da (.int 9), .da (.int (i : Nat)), .da (.lst (sS l)), .ow (dPs q), .da (.int (mo : Nat)), .da (.lst (sS fr)), e7] _
    have nd2 : (l ++ fr).Nodup := List.nodup_append.mpr ⟨nd, fnd, fun a ha b hb e => (fok b hb).2 (e ▸ ha)⟩
    have ok2 : ∀ s ∈ l ++ fr, nameS s := fun s hs => by
      rcases List.mem_append.mp hs with h | h
      · exact ok s h
      · exact (fok s h).1
    -- spots = spots + fresh
    have fin : ∀ (q2 : List Lk) (e7 : Ent), Fit (l ++ fr) q2 → q2.length ≤ 24 * (i + 1) → WS (bs K C pot old M H) (tAsg (tOp rCat (tVar 3) (tVar 6)) (gName 3)) [.da .pot, .da (.int 9), .da (.int (i : Nat)), .da (.lst (sS l)), .ow (dPs q2), .da (.int (mo : Nat)), .da (.lst (sS fr)), e7]
        { nx := fun Γ1 => ∃ l q e2 e5 e6 e7, Γ1 = [.da .pot, .da (.int 9), e2, .da (.lst (sS l)), .ow (dPs q), e5, e6, e7] ∧ l.Nodup ∧ 1 ≤ l.length ∧ l.length ≤ 9 ∧ (∀ s ∈ l, nameS s) ∧ Fit l q ∧ q.length ≤ 24 * (i + 1) } := fun q2 e7 f2 h2 => by
      refine ws_asg (WO.we (wo_op ?_))
      repeat (walk_at "w")
      refine v2o_cat (by rw [sS_len, sS_len]; omega) (wg_name ⟨l ++ fr, q2, _, _, _, _, by rw [show sS l ++ sS fr = sS (l ++ fr) from (List.map_append ..).symm]; rfl, nd2, by rw [List.length_append]; omega, by rw [List.length_append]; omega, ok2, f2, h2⟩)
    refine ws_seq (ws_if ?_)
    repeat (walk_at "w")
    refine ⟨⟨5, rfl, by omega, by omega⟩, fun d hd => ?_⟩
    obtain ⟨z, rfl, _, _⟩ := hd _ rfl
    repeat (walk_at "w")
    refine ⟨_, rfl, fun _ => ?_, fun _ => ws_next ((fin q _ (Fq.grow fun s hs => List.mem_append_left _ hs) (by omega)).imp ⟨fun _ h => h, fun _ h => h.elim, fun _ h => h.elim, fun _ h => h.elim, fun _ h => h.elim⟩)⟩
    refine ws_seq (ws_asg (WO.we (wo_op (WO.we (wo_lst ?_)))))
    repeat (walk_at "w")
    refine ⟨⟨_, rfl, by rw [sS_len]; omega, by rw [sS_len]; omega⟩, fun d hd => ?_⟩
    obtain ⟨a, ha, rfl⟩ := List.mem_map.mp (hd _ rfl)
    repeat (walk_at "w")
    refine ⟨by show (1 : Nat) ≤ 1000; decide, ?_⟩
    repeat (walk_at "w")
    refine v2o_cat (by rw [sS_len]; show 1 + fr.length ≤ _; omega) (wg_name ?_)
    have dj : ∀ s ∈ fr, s ∉ l := fun s hs => (fok s hs).2
    have nde : (a :: fr).Nodup := List.nodup_cons.mpr ⟨fun h => dj a h ha, fnd⟩
    show WS _ _ [.da .pot, .da (.int 9), .da (.int (i : Nat)), .da (.lst (sS l)), .ow (dPs q), .da (.int (mo : Nat)), .da (.lst (sS fr)), .da (.lst (sS (a :: fr)))] _
    repeat (walk_at "w")
    refine v2_eqII ⟨_, rfl, fun h => ?_, fun h => ?_⟩
    · have hm1 : mo = 1 := by have := of_decide_eq_true h; omega
      obtain ⟨b, rfl⟩ : ∃ b, fr = [b] := by
        match fr, fl with
        | [b], _ => exact ⟨b, rfl⟩
        | [], h => rw [hm1] at h; cases h
        | _ :: _ :: _, h => rw [hm1] at h; simp at h
      have ne : a ≠ b := fun e => dj b (List.mem_singleton.mpr rfl) (e ▸ ha)
      refine ws_append (i := 4) rfl ?_
      repeat (walk_at "w")
      refine v2_ixL (j := 0) rfl (show (sS [a, b])[0]? = some (.str a) from rfl) ?_
      repeat (walk_at "w")
      refine v2_ixL (j := 1) rfl (show (sS [a, b])[1]? = some (.str b) from rfl) ?_
      repeat (walk_at "w")
      refine ⟨⟨a, b, rfl⟩, fun r hr' => ?_⟩
      rw [hr' a b rfl]
      refine ⟨by rw [dPs_len]; omega, ?_⟩
      have F2 : Fit [a, b] [ordP (a, b)] := (Fit.nil _).snoc (ordP_fit ne (by simp) (by simp)) (by simp)
      rw [show dPs q ++ [dP (ordP (a, b))] = dPs (q ++ [ordP (a, b)]) by simp [dPs]]
      exact (fin (q ++ [ordP (a, b)]) _ (Fq.join F2 ha dj) (by rw [List.length_append]; show q.length + 1 ≤ _; omega)).imp ⟨fun _ h => h, fun _ h => h.elim, fun _ h => h.elim, fun _ h => h.elim, fun _ h => h.elim⟩
    · have hm1 : mo ≠ 1 := by have := of_decide_eq_false h; omega
      refine ws_extend (i := 4) rfl (WO.we (wo_call ?_))
      repeat (walk_at "w")
      refine ⟨⟨a :: fr, rfl, nde, by rw [List.length_cons]; omega, by rw [List.length_cons]; omega⟩, fun r hr' => ?_⟩
      obtain ⟨q2, rfl, F2, q24⟩ := hr' _ rfl
      refine ⟨_, rfl, by rw [dPs_len, dPs_len]; omega, ?_⟩
      rw [show dPs q ++ dPs q2 = dPs (q ++ q2) from (List.map_append ..).symm]
      exact (fin (q ++ q2) _ (Fq.join F2 ha dj) (by rw [List.length_append]; omega)).imp ⟨fun _ h => h, fun _ h => h.elim, fun _ h => h.elim, fun _ h => h.elim, fun _ h => h.elim⟩
  · rintro Γ1 ⟨l, q, e2, e5, e6, e7, rfl, nd, l1, l9, ok, Fq, ql⟩
    rw [intsD_len] at ql
    refine ws_give (i := 4) rfl (ws_ret (we_model (i := 3) (j := 4) rfl rfl (by omega) (by omega) ?_))
    exact ⟨_, _, rfl, mdl_of l1 nd ok Fq, by rw [srtS_len]; omega, by rw [srtP_len]; omega⟩
end
end K11


/-! K11O: _law_changed. -/
namespace K11
open PySem PySem.Spec PyProof.Rows L2
local macro_rules | `(tactic| walk_at "w") => `(tactic| (first
  | (with_reducible refine ws_seq ?_)
  | (with_reducible refine ws_ret ?_)
  | (with_reducible refine ws_if ?_)
  | (with_reducible refine ws_asg ?_)
  | (with_reducible refine ws_break ?_)
  | (with_reducible refine ws_drop ?_)
  | (with_reducible refine we_var (by with_unfolding_all rfl) ?_)
  | (with_reducible refine we_int ?_)
  | (with_reducible refine we_str ?_)
  | (with_reducible refine we_bl ?_)
  | (with_reducible refine we_non ?_)
  | (with_reducible refine we_ty ?_)
  | (with_reducible refine we_cls ?_)
  | (with_reducible refine wa_cons ?_)
  | (with_reducible refine wa_nil ?_)
  | (with_reducible refine we_cb ?_)
  | (with_reducible refine vc_lenL ?_)
  | (with_reducible refine vc_lenT ?_)
  | (with_reducible refine v2_B0 ?_)
  | (with_reducible refine v2_I0 ?_)
  | (with_reducible refine we_call ?_)
  | (with_reducible refine we_op ?_)
  | (with_reducible refine we_tup ?_)
  | (with_reducible refine we_if ?_)
  | (with_reducible refine we_chain ?_)
  | (with_reducible refine wt_test ?_)
  | (with_reducible refine wt_B ?_)
  | (with_reducible refine wt_not ?_)
  | (with_reducible refine wt_or ?_)
  | (with_reducible refine wt_and ?_)))


section
variable {B : Bs} {Γ : Ctx} {R : D → Prop}
theorem wipe_len (Γ : Ctx) : ∀ vs, (wipeC Γ vs).length = Γ.length
  | [] => rfl
  | v :: vs => by rw [wipeC, List.length_set, wipe_len Γ vs]
theorem ws_par3 {i j l : Nat} {t : TA} {Po : Po} (h : WA B t Γ fun ds => ∃ a b c, ds = [a, b, c] ∧ Po.nx (((Γ.set i (.da a)).set j (.da b)).set l (.da c))) : WS B (tPar3 i j l t) Γ Po := fun M σ H S E e => h M σ H S _ fun vs H1 ds S1 x r ⟨a, b, c, ed, q⟩ => by
  subst ed
  cases r with
  | cons ra r => cases r with
    | cons rb r => cases r with
      | cons rc r =>
        cases r
        exact ⟨_, _, _, rfl, e.nx M _ H1 _ (((S1.putD ra).putD rb).putD rc) x.cut q⟩
/-- [x for x in .. if ..] -/
theorem wo_filt {α : Type} {f : α → D} {l : List α} {v : Nat} {wi : TI} {tt : TT} {R : List D → Prop} (p : α → Bool) (hv : v < Γ.length) (hw : WI B wi Γ fun ds => ds = l.map f ∧ l.length ≤ 5000)
    (test : ∀ a ∈ l, WT B tt ((wipeC Γ [v]).set v (.da (f a))) fun b => b = p a) (q : R ((l.filter p).map f)) : WO B (tLc wi (gName v) tt (tVar v) [v]) Γ R := by
  refine wo_lc (go_name (by simp)) (fun M σ H S Q k => hw M σ H S Q fun J H' ds G Y S' x ⟨e, hl⟩ sr => k J H' ds G Y S' x ?_ sr)
  subst e
  refine ⟨by rw [List.length_map]; exact hl, fun i acc => acc = ((l.take i).filter p).map f, rfl, ?_, ?_⟩
  · rintro i d acc hd rfl
    rw [List.getElem?_map] at hd
    obtain ⟨a, ha, rfl⟩ := Option.map_eq_some_iff.mp hd
    have nxt : ∀ b : Bool, p a = b → ((l.take (i + 1)).filter p).map f = ((l.take i).filter p).map f ++ (if b then [f a] else []) := fun b hb => by
      rw [List.take_add_one, ha, List.filter_append, List.map_append]
      show _ ++ List.map f (List.filter p [a]) = _
      simp only [List.filter_cons, List.filter_nil, hb]
      cases b <;> simp
    refine wg_name ((test a (List.mem_of_getElem? ha)).imp fun b hb => ⟨fun h => we_var (d := f a) ?_ ?_, fun h => ?_⟩)
    · rw [List.getElem?_set_self (by rw [wipe_len]; exact hv)]
    · exact (nxt true (by rw [← hb, h])).symm
    · exact ((nxt false (by rw [← hb, h])).trans (List.append_nil _)).symm
  · rintro acc rfl
    rw [List.length_map, List.take_length]
    exact q
end
theorem srtS_filter {l : List Str} (h : srtS l = l) (p : Str → Bool) : srtS (l.filter p) = l.filter p :=
  (srtS_uniq (List.Perm.refl _) ((h ▸ srtS_pw l : l.Pairwise fun a b => leS a b = true).filter p)).symm
theorem srtP_filter {l : List Lk} (h : srtP l = l) (p : Lk → Bool) : srtP (l.filter p) = l.filter p :=
  (srtP_uniq (List.Perm.refl _) ((h ▸ srtP_pw l : l.Pairwise fun a b => leP a b = true).filter p)).symm
theorem Mdl.fit {sp : List Str} {ps : List Lk} (m : Mdl sp ps) : Fit sp ps := ⟨m.pn, m.pk⟩
theorem wk_mod {B : Bs} {Γ : Ctx} {t1 t2 : TE} {R : D → Prop} (h : WE B t1 Γ fun x => WE B t2 Γ fun y => ∃ sp ps, x = .lst (sS sp) ∧ y = .lst (dPs ps) ∧ R (modD sp ps)) : WE B (tDisp [(tC (.str "spots"), t1), (tC (.str "pairs"), t2)]) Γ R := by
  refine WK.we (wk_disp (wp_cons (we_str ⟨_, rfl, h.imp fun x h2 => wp_cons (we_str ⟨_, rfl, h2.imp fun y ⟨sp, ps, ex, ey, hr⟩ => wp_nil ⟨by show (2 : Nat) ≤ 15; decide, ?_⟩⟩)⟩)))
  subst ex ey
  rw [mod_merge]
  exact hr
section
variable {P : Program} {w : World} {K : PySem.W.Frag} {mg : Str → Option Value} {base : Heap} {C : Addr}

abbrev sChanged : Stmt := top 51
abbrev nChanged : List Str := ["_law_pot_here", "_law_model", "_law_fresh", "_law_more", "_law_spots", "_law_pairs", "_law_way", "_law_gone", "_law_left", "_law_this", "_law_mate", "_law_pair", "_law_spot"]
theorem scChanged : FnScope nChanged ["_law_pot_here", "_law_model"] (defScope sChanged) := ⟨rfl, rfl, rfl, by decide +kernel, rfl, by decide +kernel, by decide +kernel⟩
def preChanged : List D → Prop := fun ds => ∃ sp ps, ds = [.pot, modD sp ps] ∧ Mdl sp ps ∧ sp.length ≤ 40 ∧ ps.length ≤ 110
def postChanged : List D → D → Prop := fun ds d => ∀ sp ps, ds = [.pot, modD sp ps] → ModR (sp.length + 1) (ps.length + 1) d
theorem cl_changed (F : Fd K mg "_law_changed" ["_law_pot_here", "_law_model"] sChanged) (M : Mb mg) (c_draw : CDraw P w K mg base C) (c_pick : CPick P w K mg base C) (c_named : CNamed P w K mg base C) (c_link : CLink P w K mg base C) :
    Cl P w K mg base 3 "_law_changed" ["_law_pot_here", "_law_model"] (SpD K C preChanged postChanged) := F.cl fun f fd F => by
  refine fnD F scChanged (fun ds ⟨_, _, e, _⟩ => by rw [e]; rfl) fun cdv A outer s H E hr => ?_
  have hu := hu_of hr
  refine ⟨_, (pss_cons (ps_par3 (i := 4) (j := 5) (l := 6) (by rfl) scChanged.nd rfl rfl rfl (by decide) (by decide) (by decide) rfl rfl rfl (pa_cons (pe_dget hu (pv 1) pe_str (fun _ _ => rfl)) (pa_cons (pe_dget hu (pv 1) pe_str (fun _ _ => rfl)) (pa_cons (pcl c_draw (hr.mono (by decide)) (pa_cons (pv 0) (pa_cons pe_int pa_nil))) pa_nil))) (by rfl))
    (pss_cons (ps_if (PW.pt (pw_and (pt_cmpR op_eq (pv 6) pe_int (nomark _)) (pw_and1 (pt_cmpR op_gt (pe_callB call_len2 (by rfl) M.len PySem.boot_len (pa_cons (pv 4) pa_nil)) pe_int (nomark _))))) (pss_cons (ps_set (i := 7) scChanged.nd rfl (by first | exact Or.inl rfl | exact Or.inr rfl) (pcl c_pick (hr.mono (by decide)) (pa_cons (pv 0) (pa_cons (pv 4) pa_nil))))
    (pss_cons (ps_setLc (i := 8) (own := [("_law_pair", 11)]) (by rfl) scChanged.nd rfl rfl (sw_true rfl rfl rfl (by decide +kernel)) (pi_list (pv 5)) (blkOk_by (N := nChanged) (sc := defScope sChanged) (by decide +kernel)) (fun _ _ _ _ _ => (pg_name (i := 11) scChanged.nd rfl (by first | exact Or.inl rfl | exact Or.inr rfl))) (fun _ _ _ _ _ => (pts_one (pt_cmpR (op_notIn_seqK (K := K) rfl) (pv 7) (pv 11) (by rfl)))) (fun _ _ _ _ _ => (pv 11)))
    (pss_one (ps_ret (pe_disp (pps_cons pe_str (pe_lc (own := [("_law_spot", 12)]) (by rfl) scChanged.nd (pi_list (pv 4)) (blkOk_by (N := nChanged) (sc := defScope sChanged) (by decide +kernel)) (fun _ _ _ _ _ => (pg_name (i := 12) scChanged.nd rfl (by first | exact Or.inl rfl | exact Or.inr rfl))) (fun _ _ _ _ _ => (pts_one (pt_cmpR op_ne (pv 12) (pv 7) (nomark _)))) (fun _ _ _ _ _ => (pv 12))) (pps_cons pe_str (pv 8) pps_nil)) (by rfl) (by rfl) (fun z => by cases z) (by decide)))))) pss_nil)
    (pss_cons (ps_if (PW.pt (pw_and (pt_cmpR op_eq (pv 6) pe_int (nomark _)) (pw_and1 (pt_cmpR (op_neD hr.units) (pv 5) (pe_lst pa_nil) (nomark _))))) (pss_cons (ps_set (i := 7) scChanged.nd rfl (by first | exact Or.inl rfl | exact Or.inr rfl) (pcl c_pick (hr.mono (by decide)) (pa_cons (pv 0) (pa_cons (pv 5) pa_nil))))
    (pss_one (ps_ret (pe_disp (pps_cons pe_str (pv 4) (pps_cons pe_str (pe_lc (own := [("_law_pair", 11)]) (by rfl) scChanged.nd (pi_list (pv 5)) (blkOk_by (N := nChanged) (sc := defScope sChanged) (by decide +kernel)) (fun _ _ _ _ _ => (pg_name (i := 11) scChanged.nd rfl (by first | exact Or.inl rfl | exact Or.inr rfl))) (fun _ _ _ _ _ => (pts_one (pt_cmpR (op_neDK (K := K) rfl hr.units) (pv 11) (pv 7) (nomark _)))) (fun _ _ _ _ _ => (pv 11))) pps_nil)) (by rfl) (by rfl) (fun z => by cases z) (by decide))))) pss_nil)
    (pss_cons (ps_par (i := 9) (j := 10) (by rfl) scChanged.nd rfl rfl (by decide) rfl rfl (pa_cons (pcl c_pick (hr.mono (by decide)) (pa_cons (pv 0) (pa_cons (pv 4) pa_nil))) (pa_cons (pcl c_pick (hr.mono (by decide)) (pa_cons (pv 0) (pa_cons (pv 4) pa_nil))) pa_nil)) (by rfl))
    (pss_cons (ps_if (PW.pt (pw_and (pt_cmpR op_eq (pv 6) pe_int (nomark _)) (pw_and (pt_cmpR op_ne (pv 9) (pv 10) (nomark _)) (pw_and1 (pt_cmpR (op_notInD (hu65 hr)) (pcl c_link (hr.mono (by decide)) (pa_cons (pv 9) (pa_cons (pv 10) pa_nil))) (pv 5) (by rfl)))))) (pss_one (ps_ret (pe_disp (pps_cons pe_str (pv 4) (pps_cons pe_str (pe_callB (call_srt rfl) (by rfl) M.sorted (by decide +kernel) (pa_cons (pe_op op_cat (pv 5) (pe_lst (pa_cons (pcl c_link (hr.mono (by decide)) (pa_cons (pv 9) (pa_cons (pv 10) pa_nil))) pa_nil))) pa_nil)) pps_nil)) (by rfl) (by rfl) (fun z => by cases z) (by decide)))) pss_nil)
    (pss_cons (ps_set (i := 2) scChanged.nd rfl (by first | exact Or.inl rfl | exact Or.inr rfl) (pe_ix ix_list (pcl c_named (hr.mono (by decide)) (pa_cons (pv 0) (pa_cons pe_int (pa_cons (pv 4) pa_nil)))) pe_int (fun _ _ => rfl)))
    (pss_cons (ps_set (i := 3) scChanged.nd rfl (by first | exact Or.inl rfl | exact Or.inr rfl) (pe_op op_rep (pe_lst (pa_cons (pcl c_link (hr.mono (by decide)) (pa_cons (pv 9) (pa_cons (pv 2) pa_nil))) pa_nil)) (pcl c_draw (hr.mono (by decide)) (pa_cons (pv 0) (pa_cons pe_int pa_nil)))))
    (pss_one (ps_ret (pe_disp (pps_cons pe_str (pe_callB (call_srt rfl) (by rfl) M.sorted (by decide +kernel) (pa_cons (pe_op op_cat (pv 4) (pe_lst (pa_cons (pv 2) pa_nil))) pa_nil)) (pps_cons pe_str (pe_callB (call_srt rfl) (by rfl) M.sorted (by decide +kernel) (pa_cons (pe_op op_cat (pv 5) (pv 3)) pa_nil)) pps_nil)) (by rfl) (by rfl) (fun z => by cases z) (by decide))))))))))), fun pot old M H ds hp => ?_⟩
  obtain ⟨sp, ps, rfl, m, l40, l110⟩ := hp
  dsimp only [cxOf, Cx.nox, Cx.wish]
  have s1 := m.s1
  have okS : ∀ s ∈ sp, PyData.strOk s = true := fun s hs => name_strOk (m.sk s hs).1
  have okP : ∀ p ∈ ps, PyData.strOk p.1 = true ∧ PyData.strOk p.2 = true := fun p hp => ⟨okS _ (m.pk p hp).2.2.1, okS _ (m.pk p hp).2.2.2⟩
  have fin : ∀ sp' ps', Mdl sp' ps' → sp'.length ≤ sp.length + 1 → ps'.length ≤ ps.length + 1 → postChanged [.pot, modD sp ps] (modD sp' ps') := fun sp' ps' h1 h2 h3 a b e => by
    have e1 := modD_inj (List.cons.inj (List.cons.inj e).2).1
    rw [← e1.1, ← e1.2]
    exact ⟨sp', ps', rfl, h1, h2, h3⟩
  show WS _ _ [.da .pot, .da (modD sp ps), .no, .no, .no, .no, .no, .no, .no, .no, .no, .no, .no] _
  refine ws_seq (ws_par3 (wa_cons (we_dget ?_)))
  repeat (walk_at "w")
  refine ⟨_, rfl, ?_⟩
  repeat (walk_at "w")
  refine ⟨_, _, rfl, mod_spots sp ps, wa_cons (we_dget ?_)⟩
  repeat (walk_at "w")
  refine ⟨_, rfl, ?_⟩
  repeat (walk_at "w")
  refine ⟨_, _, rfl, mod_pairs sp ps, ?_⟩
  repeat (walk_at "w")
  refine ⟨⟨5, rfl, by omega, by omega⟩, fun d hd => ?_⟩
  obtain ⟨way, rfl, w0, w1⟩ := hd _ rfl
  refine wa_nil ⟨_, _, _, rfl, ?_⟩
  show WS _ _ [.da .pot, .da (modD sp ps), .no, .no, .da (.lst (sS sp)), .da (.lst (dPs ps)), .da (.int way), .no, .no, .no, .no, .no, .no] _
  -- the first kind: a spot goes
  refine ws_seq (ws_if (WT.imp (R := fun b => b = true → 1 < sp.length) ?_ fun b hb => ⟨fun h => ?_, fun _ => ws_next ?_⟩))
  · repeat (walk_at "w")
    refine v2_eqII ⟨_, rfl, fun _ => ?_, fun _ z => (nomatch z)⟩
    repeat (walk_at "w")
    refine ⟨_, rfl, fun h => ?_⟩
    have := of_decide_eq_true h
    rw [sS_len] at this
    omega
  · have l2 := hb h
    repeat (walk_at "w")
    refine ⟨⟨_, rfl, by rw [sS_len]; omega, by rw [sS_len]; omega⟩, fun d hd => ?_⟩
    obtain ⟨g, hg, rfl⟩ := List.mem_map.mp (hd _ rfl)
    refine wg_name ?_
    show WS _ _ [.da .pot, .da (modD sp ps), .no, .no, .da (.lst (sS sp)), .da (.lst (dPs ps)), .da (.int way), .da (.str g), .no, .no, .no, .no, .no] _
    refine ws_seq (ws_asg (WO.we (wo_filt (f := dP) (l := ps) (fun p => !decide (g ∈ [p.1, p.2])) (by show 11 < 13; decide) (wi_list (we_var rfl ⟨_, rfl, rfl, by omega⟩)) (fun p hp => ?_) (wg_name ?_))))
    · show WT _ _ [.da .pot, .da (modD sp ps), .no, .no, .da (.lst (sS sp)), .da (.lst (dPs ps)), .da (.int way), .da (.str g), .no, .no, .no, .da (dP p), .no] _
      repeat (walk_at "w")
      exact v2_inT (l := [p.1, p.2]) ⟨_, rfl, rfl⟩
    show WS _ _ [.da .pot, .da (modD sp ps), .no, .no, .da (.lst (sS sp)), .da (.lst (dPs ps)), .da (.int way), .da (.str g), .da (.lst (dPs (ps.filter fun p => !decide (g ∈ [p.1, p.2])))), .no, .no, .no, .no] _
    refine ws_ret (wk_mod (WO.we (wo_filt (f := D.str) (l := sp) (fun s => !decide (s = g)) (by show 12 < 13; decide) (wi_list (we_var rfl ⟨_, rfl, rfl, by omega⟩)) (fun s hs => ?_) ?_)))
    · show WT _ _ [.da .pot, .da (modD sp ps), .no, .no, .da (.lst (sS sp)), .da (.lst (dPs ps)), .da (.int way), .da (.str g), .da (.lst (dPs _)), .no, .no, .no, .da (.str s)] _
      repeat (walk_at "w")
      exact v2_neSS ⟨_, rfl, rfl⟩
    repeat (walk_at "w")
    refine ⟨_, _, rfl, rfl, fin _ _ ⟨?_, srtS_filter m.so _, m.sn.filter _, fun s hs => m.sk s (List.mem_filter.mp hs).1, srtP_filter m.po _, m.pn.filter _, fun p hp => ?_⟩ ?_ ?_⟩
    · obtain ⟨x, hx, ne⟩ : ∃ x ∈ sp, x ≠ g := by
        match sp, l2, m.sn with
        | a :: b :: r, _, nd =>
          by_cases e : a = g
          · refine ⟨b, by simp, fun z => ?_⟩
            rw [List.nodup_cons] at nd
            exact nd.1 (by rw [e, ← z]; simp)
          · exact ⟨a, by simp, e⟩
        | [], h, _ => simp at h
        | [_], h, _ => simp at h
      exact List.length_pos_of_mem (List.mem_filter.mpr ⟨hx, by simpa using ne⟩)
    · obtain ⟨h1, h2⟩ := List.mem_filter.mp hp
      obtain ⟨a, b, c, d⟩ := m.pk p h1
      have h3 : ¬ g = p.1 ∧ ¬ g = p.2 := by simpa using h2
      exact ⟨a, b, List.mem_filter.mpr ⟨c, by simpa using Ne.symm h3.1⟩, List.mem_filter.mpr ⟨d, by simpa using Ne.symm h3.2⟩⟩
    · exact Nat.le_trans (List.length_filter_le _ _) (by omega)
    · exact Nat.le_trans (List.length_filter_le _ _) (by omega)
  -- the second: a pair goes
  refine ws_seq (ws_if (WT.imp (R := fun b => b = true → ps ≠ []) ?_ fun b hb => ⟨fun h => ?_, fun _ => ws_next ?_⟩))
  · repeat (walk_at "w")
    refine v2_eqII ⟨_, rfl, fun _ => ?_, fun _ z => (nomatch z)⟩
    repeat (walk_at "w")
    refine WO.we (wo_lst (wa_nil ⟨by decide, ?_⟩))
    refine v2_neD (ok_dPs (n := 8) okP) rfl (nob_dPs ps) rfl fun b hb => ⟨_, rfl, fun h e => ?_⟩
    subst e
    rw [hb.mpr rfl] at h
    cases h
  · have l2 := List.length_pos_iff.mpr (hb h)
    repeat (walk_at "w")
    refine ⟨⟨_, rfl, by rw [dPs_len]; omega, by rw [dPs_len]; omega⟩, fun d hd => ?_⟩
    obtain ⟨g, hg, rfl⟩ := List.mem_map.mp (hd _ rfl)
    refine wg_name ?_
    show WS _ _ [.da .pot, .da (modD sp ps), .no, .no, .da (.lst (sS sp)), .da (.lst (dPs ps)), .da (.int way), .da (dP g), .no, .no, .no, .no, .no] _
    refine ws_ret (wk_mod (we_var rfl (WO.we (wo_filt (f := dP) (l := ps) (fun p => !decide (p = g)) (by show 11 < 13; decide) (wi_list (we_var rfl ⟨_, rfl, rfl, by omega⟩)) (fun p hp => ?_) ?_))))
    · show WT _ _ [.da .pot, .da (modD sp ps), .no, .no, .da (.lst (sS sp)), .da (.lst (dPs ps)), .da (.int way), .da (dP g), .no, .no, .no, .da (dP p), .no] _
      repeat (walk_at "w")
      refine v2_neD (ok_dP 9 (okP p hp).1 (okP p hp).2) (ok_dP 9 (okP g hg).1 (okP g hg).2) (nob_dP p) (nob_dP g) fun b hb => ⟨_, rfl, ?_⟩
      rw [show b = decide (p = g) by rw [Bool.eq_iff_iff, hb, decide_eq_true_eq, dP_inj]]
    refine ⟨_, _, rfl, rfl, fin _ _ ⟨m.s1, m.so, m.sn, m.sk, srtP_filter m.po _, m.pn.filter _, fun p hp => m.pk p (List.mem_filter.mp hp).1⟩ (by omega) (Nat.le_trans (List.length_filter_le _ _) (by omega))⟩
  refine ws_seq (ws_par2 (wf_da ?_))
  repeat (walk_at "w")
  refine ⟨⟨_, rfl, by rw [sS_len]; omega, by rw [sS_len]; omega⟩, fun d hd => wf_da ?_⟩
  obtain ⟨a, ha, rfl⟩ := List.mem_map.mp (hd _ rfl)
  repeat (walk_at "w")
  refine ⟨⟨_, rfl, by rw [sS_len]; omega, by rw [sS_len]; omega⟩, fun d hd => ?_⟩
  obtain ⟨b, hb, rfl⟩ := List.mem_map.mp (hd _ rfl)
  show WS _ _ [.da .pot, .da (modD sp ps), .no, .no, .da (.lst (sS sp)), .da (.lst (dPs ps)), .da (.int way), .no, .no, .da (.str a), .da (.str b), .no, .no] _
  -- the third: a pair more
  refine ws_seq (ws_if (WT.imp (R := fun t => t = true → a ≠ b ∧ ordP (a, b) ∉ ps) ?_ fun t ht => ⟨fun h => ?_, fun _ => ws_next ?_⟩))
  · repeat (walk_at "w")
    refine v2_eqII ⟨_, rfl, fun _ => ?_, fun _ z => (nomatch z)⟩
    repeat (walk_at "w")
    refine v2_neSS ⟨_, rfl, fun h => ?_, fun _ z => (nomatch z)⟩
    have ne : a ≠ b := by simpa using h
    repeat (walk_at "w")
    refine ⟨⟨a, b, rfl⟩, fun d hd => ?_⟩
    have ed := hd a b rfl
    subst ed
    have fit := ordP_fit ne ha hb
    repeat (walk_at "w")
    refine v2_ninD (ok_dP 9 (okS _ fit.2.2.1) (okS _ fit.2.2.2)) (ok_dPs (n := 9) okP) (nob_dP _) (nob_dPs ps) fun b' hb' => ⟨_, rfl, fun h => ⟨ne, ?_⟩⟩
    have eb := D_any_dPs hb'
    rw [eb] at h
    simpa using h
  · obtain ⟨ne, nin⟩ := ht h
    have fit := ordP_fit ne ha hb
    refine ws_ret (wk_mod (we_var rfl (WO.we (wo_cb (wa_cons (WO.we (wo_op (we_var rfl (WO.we (wo_lst ?_)))))))))) 
    repeat (walk_at "w")
    refine ⟨⟨a, b, rfl⟩, fun d hd => ?_⟩
    have ed := hd a b rfl
    subst ed
    repeat (walk_at "w")
    refine ⟨by show (1 : Nat) ≤ 1000; decide, v2o_cat (by rw [dPs_len]; show ps.length + 1 ≤ _; omega) ?_⟩
    repeat (walk_at "w")
    rw [show dPs ps ++ [dP (ordP (a, b))] = dPs (ps ++ [ordP (a, b)]) by simp [dPs]]
    refine vco_srtP (by rw [List.length_append]; show ps.length + 1 ≤ _; omega) ⟨_, _, rfl, rfl, fin _ _ ?_ (by omega) (by rw [srtP_len, List.length_append]; exact Nat.le_refl _)⟩
    have := mdl_of m.s1 m.sn m.sk (m.fit.snoc fit nin)
    rwa [m.so] at this
  -- the last: a spot more
  refine ws_seq (ws_asg (we_op (WO.we (wo_call ?_))))
  repeat (walk_at "w")
  refine ⟨⟨1, sp, rfl, by omega, by omega⟩, fun r hr' => ?_⟩
  obtain ⟨fr, rfl, fl, fnd, fok⟩ := hr' 1 sp rfl
  obtain ⟨c, rfl⟩ : ∃ c, fr = [c] := by
    match fr, fl with
    | [c], _ => exact ⟨c, rfl⟩
  obtain ⟨cok, cn⟩ := fok c (List.mem_singleton.mpr rfl)
  repeat (walk_at "w")
  refine v2_ixL (j := 0) rfl (show (sS [c])[0]? = some (.str c) from rfl) (wg_name ?_)
  show WS _ _ [.da .pot, .da (modD sp ps), .da (.str c), .no, .da (.lst (sS sp)), .da (.lst (dPs ps)), .da (.int way), .no, .no, .da (.str a), .da (.str b), .no, .no] _
  refine ws_seq (ws_asg (WO.we (wo_op (WO.we (wo_lst ?_)))))
  repeat (walk_at "w")
  refine ⟨⟨a, c, rfl⟩, fun d hd => ?_⟩
  have ed := hd a c rfl
  subst ed
  repeat (walk_at "w")
  refine ⟨by show (1 : Nat) ≤ 1000; decide, ?_⟩
  repeat (walk_at "w")
  refine ⟨⟨2, rfl, by omega, by omega⟩, fun d hd => ?_⟩
  obtain ⟨z, rfl, z0, z1⟩ := hd _ rfl
  refine v2o_rep z0 (by omega) (Nat.le_refl _) ?_
  obtain ⟨q, hq, q1, qe⟩ : ∃ q : List Lk, (List.replicate z.toNat [dP (ordP (a, c))]).flatten = dPs q ∧ q.length ≤ 1 ∧ (q = [] ∨ q = [ordP (a, c)]) := by
    rcases (show z = 0 ∨ z = 1 by omega) with e | e
    · subst e; exact ⟨[], rfl, by decide, .inl rfl⟩
    · subst e; exact ⟨[ordP (a, c)], rfl, Nat.le_refl _, .inr rfl⟩
  rw [hq]
  refine wg_name ?_
  show WS _ _ [.da .pot, .da (modD sp ps), .da (.str c), .da (.lst (dPs q)), .da (.lst (sS sp)), .da (.lst (dPs ps)), .da (.int way), .no, .no, .da (.str a), .da (.str b), .no, .no] _
  refine ws_ret (wk_mod (WO.we (wo_cb (wa_cons (WO.we (wo_op (we_var rfl (WO.we (wo_lst ?_))))))))) 
  repeat (walk_at "w")
  refine ⟨by show (1 : Nat) ≤ 1000; decide, v2o_cat (by rw [sS_len]; show sp.length + 1 ≤ _; omega) ?_⟩
  repeat (walk_at "w")
  rw [show sS sp ++ [D.str c] = sS (sp ++ [c]) by simp [sS]]
  refine vco_srtS (by rw [List.length_append]; show sp.length + 1 ≤ _; omega) (WO.we (wo_cb (wa_cons (WO.we (wo_op ?_)))))
  repeat (walk_at "w")
  refine v2o_cat (by rw [dPs_len, dPs_len]; omega) ?_
  repeat (walk_at "w")
  rw [show dPs ps ++ dPs q = dPs (ps ++ q) from (List.map_append ..).symm]
  refine vco_srtP (by rw [List.length_append]; omega) ⟨_, _, rfl, rfl, fin _ _ ?_ (by rw [srtS_len, List.length_append]; exact Nat.le_refl _) (by rw [srtP_len, List.length_append]; omega)⟩
  have F0 : Fit (sp ++ [c]) ps := m.fit.grow fun s hs => List.mem_append_left _ hs
  have F1 : Fit (sp ++ [c]) (ps ++ q) := by
    rcases qe with e | e
    · rw [e, List.append_nil]; exact F0
    · rw [e]
      have ne : a ≠ c := fun z => cn (z ▸ ha)
      refine F0.snoc (ordP_fit ne (List.mem_append_left _ ha) (List.mem_append_right _ (List.mem_singleton.mpr rfl))) fun h => ?_
      obtain ⟨_, _, k1, k2⟩ := m.pk _ h
      rcases ordP_ends (a, c) with e | e <;> rw [e] at k1 k2
      · exact cn k2
      · exact cn k1
  exact mdl_of (by rw [List.length_append]; omega) (List.nodup_append.mpr ⟨m.sn, by simp, fun x hx y hy => by rw [List.mem_singleton.mp hy]; exact fun e => cn (e ▸ hx)⟩) (fun s hs => by
    rcases List.mem_append.mp hs with h | h
    · exact m.sk s h
    · rw [List.mem_singleton.mp h]; exact cok) F1
end
end K11

/-! K11I: repr and what it asks: defs that run where no repr is under way. -/
namespace K11
open PySem PySem.Spec PyProof.Rows L2

/-! ## promises under guards -/
structure GFn (P : Program) (w : World) (K : PySem.W.Frag) (mg : Str → Option Value) (base : Heap) (k : Nat) (f : Addr) (fd : FuncData) (ps : List Str) (sp : Sp) : Prop where
  len : ∀ vs H Q E, sp vs H Q E → vs.length = ps.length
  run : ∀ (A : Around) (outer : List Env) (s : Shared) (H : Hp) (args : Args) (us : List Value) (vs : List V) (Q : VK) (E : XK), Room k A → A.guards = some [] → Env0 P w K mg base A outer s H → BindsTo s fd args (ps.zip us) → Vals vs us → sp vs H Q E →
    codeAny (model P w) A (.call (.ref f) args) (CR CX0 outer P w H s Q E) s
/-- a def's body under guards: the flow it ends with, told to the caller -/
theorem flow_back {P : Program} {w : World} {K : PySem.W.Frag} {mg : Str → Option Value} {base : Heap} {N : List Str} {qual : Str} {scope : Scope} {f : Addr} {cdv : Value} {A : Around} {outer : List Env} {s s' : Shared} {H : Hp} {Q : VK} {E : XK} {fl : Flow}
    (h : SP (cxOf CX0 P w K mg base N qual scope f cdv A outer s H E) [] { nx := fun _ H' => Q .non H', rt := Q } fl s') : CR CX0 outer P w H s Q E (.ok (match fl with | .ret u => .ret u | _ => .ret .none)) s' := by
  cases fl with
  | ret u => obtain ⟨v, σ', H', J, rv, q⟩ := h; exact ⟨v, H', J.os, J.bare, J.base, J.hok, rv, q⟩
  | next => obtain ⟨σ', H', J, q⟩ := h; exact ⟨V.non, H', J.os, J.bare, J.base, J.hok, rfl, q⟩
  | brk => obtain ⟨_, _, _, q⟩ := h; exact q.elim
  | cont => obtain ⟨_, _, _, q⟩ := h; exact q.elim
theorem gfn_of {P : Program} {w : World} {K : PySem.W.Frag} {mg : Str → Option Value} {base : Heap} {k : Nat} {x qual : Str} {st : Stmt} {f : Addr} {fd : FuncData} {N ps : List Str} {sp : Sp} (F : FunX K x qual st f fd) (S : FnScope N ps (defScope st))
    (len : ∀ vs H Q E, sp vs H Q E → vs.length = ps.length)
    (hbody : ∀ (cdv : Value) (A : Around) (outer : List Env) (s : Shared) (H : Hp) (vs : List V) (Q : VK) (E : XK), Room k (A.deeper (envOfC qual (defScope st) s.heap.objs.size f cdv)) → (A.deeper (envOfC qual (defScope st) s.heap.objs.size f cdv)).guards = some [] → sp vs H Q E →
      ∃ t, PSs (cxOf CX0 P w K mg base N qual (defScope st) f cdv A outer s H E).nox (defBody st) t ∧ t { nx := fun _ H' => Q .non H', rt := Q } (L2.start N vs) H) : GFn P w K mg base (k + 1) f fd ps sp := by
  obtain ⟨oc, od, dV, kV, doc, pm, an, cdv, ct, osl, rfl, lk, hcd⟩ := F.ex
  refine ⟨len, fun A outer s H args us vs Q E hr hg e0 hb r hsp => ?_⟩
  have inH : K.In s.heap := e0.mod.kin.keeps fun b o e => (e0.bs b o e).1
  have free : s.heap.NoLimit := e0.mod.nolimit.keeps fun b o e => (e0.bs b o e).1
  have kinds : ∀ y ∈ ps.zip us, (defScope st).names.lookup y.1 = some .local ∨ ((defScope st).names.lookup y.1 = some .cell ∧ ((cellsFrom (s.heap.objs.size + 1) (defScope st).names []).lookup y.1).isSome = true) := fun y hy =>
    (S.par y.1 (List.of_mem_zip (a := y.1) (b := y.2) hy).1).imp id fun q => ⟨q, PySem.W.cellsFrom_some _ _ _ (.inl q)⟩
  refine codeAny_call_function hr.depth (inH _ _ lk) rfl S.co S.gen rfl (PySem.W.codeRec_of inH hcd) (hb _ _ _ _ (wpAny_newFunctionEnv_cells S.kind kinds fun env he s1 x => ?_))
  subst he
  obtain ⟨t, ht, hq⟩ := hbody cdv A outer s H vs Q E (hr.deeper _) hg hsp
  refine ⟨free.keeps x.toInCall.keep, codeAny_func (wpAny_mono (ht.nox.run [] s1 (L2.start N vs) H _ (inv_start S hr.hd e0 (len _ _ _ _ hsp) r x) hq) (fun fl s' hs => ?_) fun e s' hs => hs)⟩
  have z := flow_back hs
  cases fl <;> exact z
theorem FnOk.g {P : Program} {w : World} {K : PySem.W.Frag} {mg : Str → Option Value} {base : Heap} {k : Nat} {f : Addr} {fd : FuncData} {ps : List Str} {sp : Sp} (F : FnOk P w K mg base CX0 k f fd ps sp) : GFn P w K mg base k f fd ps sp :=
  ⟨F.len, fun A outer s H args us vs Q E hr _ => F.run A outer s H args us vs Q E hr⟩
/-- by the name -/
structure GCl (P : Program) (w : World) (K : PySem.W.Frag) (mg : Str → Option Value) (base : Heap) (k : Nat) (x : Str) (ps : List Str) (sp : Sp) : Prop where
  ex : ∃ (f : Addr) (fd : FuncData), GFn P w K mg base k f fd ps sp ∧ mg x = some (.ref f) ∧ PySem.W.keepIn K (.ref f) = true ∧ Binds K fd ps []
theorem Fd.gcl {P : Program} {w : World} {K : PySem.W.Frag} {mg : Str → Option Value} {base : Heap} {k : Nat} {x : Str} {ps : List Str} {st : Stmt} {sp : Sp} (F : Fd K mg x ps st)
    (h : ∀ f fd, FunX K x x st f fd → GFn P w K mg base k f fd ps sp) : GCl P w K mg base k x ps sp := by
  obtain ⟨f, fd, h1, h2, h3⟩ := F.ex
  exact ⟨f, fd, h f fd h1, h2, h1.kp, h3⟩
structure GMt (P : Program) (w : World) (K : PySem.W.Frag) (mg : Str → Option Value) (base : Heap) (C : Addr) (k : Nat) (m : Str) (ps : List Str) (sp : Sp) : Prop where
  ex : ∃ (f : Addr) (fd : FuncData), GFn P w K mg base k f fd ps sp ∧ Meth K C m f ∧ Binds K fd ps []
theorem Fm.gmt {P : Program} {w : World} {K : PySem.W.Frag} {mg : Str → Option Value} {base : Heap} {C : Addr} {k : Nat} {m qual : Str} {ps : List Str} {st : Stmt} {sp : Sp} (F : Fm K C m qual ps st)
    (h : ∀ f fd, FunX K m qual st f fd → GFn P w K mg base k f fd ps sp) : GMt P w K mg base C k m ps sp := by
  obtain ⟨f, fd, h1, h2, h3⟩ := F.ex
  exact ⟨f, fd, h f fd h1, h2, h3⟩
section
variable {X : Cx} {pins : List (Addr × Obj)} {σ : L2.St} {H : Hp} {s : Shared}
theorem grun {A : Around} {k : Nat} {f : Addr} {fd : FuncData} {ps : List Str} {sp : Sp} {us : List Value} {vs : List V} {Q : VK} {E : Value → Shared → Prop} (F : GFn X.prog X.w X.K X.mg X.base k f fd ps sp) (hr : Room k A) (hg : A.guards = some []) (hf : A.frames = X.A.frames) (hb : Binds X.K fd ps [])
    (I : Inv X pins σ H s) (r : Vals vs us) (h : sp vs H Q E0) : wpAny (model X.prog X.w) A (call (.ref f) us) (EP X pins σ Q) E s := by
  have hl : (us ++ []).length = ps.length := by rw [List.append_nil, ← r.length]; exact F.len _ _ _ _ h
  have e0 : Env0 X.prog X.w X.K X.mg X.base A X.stack s H := by
    have e := I.env0
    exact ⟨hf.trans e.frames, e.mod, e.bs, e.bsz, e.funs, e.frf, e.hok, e.bare⟩
  have b := hb s us I.kIn hl
  rw [List.append_nil] at b
  refine wpAny_call (codeAny_mono (F.run A X.stack s H ⟨us, []⟩ us vs Q E0 hr hg e0 b r h) fun r s' hq => ?_)
  cases r with
  | error e => exact False.elim hq
  | ok fl =>
    cases fl with
    | ret u => exact I.after hq
    | next => exact False.elim hq
    | brk => exact False.elim hq
    | cont => exact False.elim hq
theorem pgcl {k : Nat} {x : Str} {ps : List Str} {sp : Sp} {p pos : Pos} {e : Expr} {es : List Expr} {t : TA} (c : GCl X.prog X.w X.K X.mg X.base k x ps sp) (hr : Room k X.A) (hgd : X.A.guards = some []) (ha : PA X (e :: es) t) (hg : Gl X x := by rfl)
    (hdb : (x == ("__debug__" : Str)) = false := by decide) (he : starEach (e :: es) X.env = (false, eval e X.env) :: starEach es X.env := by rfl) (hpl : (backTo pos (starEach es X.env)).any (·.1) = false := by rfl) :
    PE X (.Call (.Name x p) (e :: es) [] pos) (tCall sp [] E0 t) := by
  obtain ⟨f, fd, h1, h2, h3, h4⟩ := c.ex
  refine ⟨fun pins s σ H Q I h => ?_⟩
  refine wpAny_Call_Name_kw (ld_glob I hg h2 ?_ hdb)
  refine PySem.W.callWith_K (h₀ := X.base) I.ok.mod.kin h3 (thn (ha.run pos pins s σ H _ I h) fun us s1 ⟨vs, H1, I1, r, q⟩ => ⟨I1.kIn, ?_⟩) he hpl
  have q' : sp (vs ++ []) H1 Q E0 := q
  rw [List.append_nil] at q'
  exact grun h1 hr hgd rfl h4 I1 r q'

/-! ## repr -/
def rReprD (K : PySem.W.Frag) : List V → Hp → VK → Prop := fun xs H Q => ∃ a d, xs = [.ref a] ∧ Dp K H (.ref a) d ∧ d.layable0 = true ∧ d.showable = true ∧ d.intsShort 13 = true ∧ Q (.str d.shown) H
theorem call_reprD (hg : X.A.guards = some []) (hu : X.A.units + (64 + 1) < cLine) : CallR X (.builtin "repr") (rReprD X.K) := by
  intro pins s σ H xs us Q I r h
  obtain ⟨a, d, rfl, hd, hl, hs, hi, q⟩ := h
  obtain ⟨u, rfl, ru⟩ := vals1 r
  cases ru
  obtain ⟨as, rd⟩ := Dp.reads I d (.ref a) (.ref a) hd rfl
  refine repr_of_reads' rd hs (PyData.noDict_hsm (PyData.hasDict_of_layable hl)) hg (room_of_layable hl hu) (fun _ _ e => e) (fun h' t tk hk => ?_) (Nat.le_trans (shown_le13 hl hi) (by decide))
  exact ⟨.str d.shown, H, I.kept hk, ⟨t, rfl⟩, q⟩
def rReprN (C : Addr) (sp : Sp) : List V → Hp → VK → Prop := fun xs H Q => ∃ a dx fs, xs = [.ref a] ∧ H a = some (.ins C dx fs) ∧ sp xs H (fun v H' => ∃ y, v = .str y ∧ Q (.str y) H') E0
theorem call_reprN {C : Addr} {k : Nat} {ps : List Str} {sp : Sp} (c : GMt X.prog X.w X.K X.mg X.base C k "__repr__" ps sp) (hr : Room (k + 1) X.A) (hg : X.A.guards = some []) : CallR X (.builtin "repr") (rReprN C sp) := by
  obtain ⟨f, fd, F, hm, hb⟩ := c.ex
  intro pins s σ H xs us Q I r h
  obtain ⟨a, dx, fs, rfl, ha, hs⟩ := h
  obtain ⟨u, rfl, ru⟩ := vals1 r
  cases ru
  obtain ⟨mA, J, _⟩ := ins_get I.hok ha
  obtain ⟨od, J, _⟩ := J.look
  obtain ⟨m, hF⟩ := I.fr
  refine PySem.W.repr_K (by have := hr.in1.un; show X.A.units + 1 < cLine; have := hr.un; omega) hF I.ok.mod.kin J hm.at_ hm.fn (thn (grun F hr.in1 hg rfl hb I (.cons (show RelV (.ref a) (.ref a) from rfl) .nil) hs) fun r s' ⟨w, H', I', rw', y, ew, q⟩ => ?_)
  subst ew
  obtain ⟨t, rfl⟩ := rw'
  exact ⟨.str y, H', I', ⟨t, rfl⟩, q⟩
/-- {x!r} of a list -/
def tFmtL (K : PySem.W.Frag) (te : TE) : TE := fun σ H Q => te σ H fun x H1 => ∃ a d, x = .ref a ∧ Dp K H1 (.ref a) d ∧ d.layable0 = true ∧ d.showable = true ∧ d.intsShort 13 = true ∧ Q (.str d.shown) H1
theorem pe_fmtL {e : Expr} {te : TE} {pos : Pos} (hg : X.A.guards = some []) (hu : X.A.units + (64 + 1) < cLine) (he : PE X e te) : PE X (.FormattedValue e 114 none pos) (tFmtL X.K te) := by
  refine ⟨fun pins s σ H Q I h => ?_⟩
  refine wpAny_FormattedValue_repr (thn (he.run pins s σ H _ I h) fun v s1 hv => ?_)
  obtain ⟨x, H1, I1, r1, a, d, rfl, hd, hl, hs, hi, q⟩ := hv
  cases r1
  obtain ⟨as, rd⟩ := Dp.reads I1 d (.ref a) (.ref a) hd rfl
  have hz : d.shown.length ≤ sizeLine := Nat.le_trans (shown_le13 hl hi) (by decide)
  refine pyReprObj_of_reads rd hs (PyData.noDict_hsm (PyData.hasDict_of_layable hl)) hg (by have := room_of_layable hl hu; omega) (fun _ _ e => e) (fun h' t tk hk => ?_) hz
  exact wpAny_formatField_str ⟨.str d.shown, H1, I1.kept hk, ⟨_, rfl⟩, q⟩ ⟨.str d.shown, H1, (I1.kept (t' := tk) hk).tok _, ⟨_, rfl⟩, q⟩ hz
end

/-! ## on data -/
mutual
/-- the ints are small -/
def D.sm : D → Bool
  | .int i => decide (0 ≤ i) && decide (i < 128)
  | .lst l => D.smAll l
  | .nl l => D.smAll l
  | .tup l => D.smAll l
  | _ => true
def D.smAll : List D → Bool
  | [] => true
  | d :: r => D.sm d && D.smAll r
end
mutual
def D.wt : D → Nat
  | .str s => s.length
  | .lst l => D.wtAll l
  | .nl l => D.wtAll l
  | .tup l => D.wtAll l
  | .int _ => 8
  | _ => 0
def D.wtAll : List D → Nat
  | [] => 0
  | d :: r => D.wt d + 1 + D.wtAll r
end
theorem int_short : ∀ i : Nat, i < 128 → (PyData.shown (.int (i : Int))).length ≤ 13 ∧ (i : Int).natAbs.log2 < 1920 ∧ (if ((i : Int) == 0) then 0 else (i : Int).natAbs.log2 + 1) ≤ 8 := by decide +kernel
mutual
theorem D.rp_ok : ∀ d : D, d.sm = true → d.py.showable = true ∧ d.py.intsShort 13 = true ∧ d.py.weight ≤ d.wt
  | .non, _ => ⟨rfl, rfl, Nat.le_refl _⟩
  | .bl b, _ => ⟨rfl, rfl, Nat.le_refl _⟩
  | .int i, h => by
    have h' : 0 ≤ i ∧ i < 128 := by simpa [D.sm] using h
    obtain ⟨n, rfl⟩ : ∃ n : Nat, i = n := ⟨i.toNat, by omega⟩
    obtain ⟨a, b, c⟩ := int_short n (by omega)
    exact ⟨decide_eq_true b, decide_eq_true a, c⟩
  | .str s, _ => ⟨rfl, rfl, Nat.le_refl _⟩
  | .lst l, h => D.rp_okAll l h
  | .nl l, h => D.rp_okAll l h
  | .tup l, h => D.rp_okAll l h
  | .dic _, _ => ⟨rfl, rfl, Nat.le_refl _⟩
  | .net _ _ _, _ => ⟨rfl, rfl, Nat.le_refl _⟩
  | .pot, _ => ⟨rfl, rfl, Nat.le_refl _⟩
  | .ty _, _ => ⟨rfl, rfl, Nat.le_refl _⟩
  | .cls, _ => ⟨rfl, rfl, Nat.le_refl _⟩
theorem D.rp_okAll : ∀ l : List D, D.smAll l = true → PyData.showableAll (D.pyAll l) = true ∧ PyData.intsShortAll 13 (D.pyAll l) = true ∧ PyData.weightAll (D.pyAll l) ≤ D.wtAll l
  | [], _ => ⟨rfl, rfl, Nat.le_refl _⟩
  | d :: r, h => by
    have h' : d.sm = true ∧ D.smAll r = true := by
      rw [D.smAll, Bool.and_eq_true] at h; exact h
    obtain ⟨a1, a2, a3⟩ := D.rp_ok d h'.1
    obtain ⟨b1, b2, b3⟩ := D.rp_okAll r h'.2
    refine ⟨?_, ?_, ?_⟩
    · show (PyData.showable d.py && PyData.showableAll (D.pyAll r)) = true
      rw [a1, b1]; rfl
    · show (PyData.intsShort 13 d.py && PyData.intsShortAll 13 (D.pyAll r)) = true
      rw [a2, b2]; rfl
    · show PyData.weight d.py + 1 + PyData.weightAll (D.pyAll r) ≤ D.wt d + 1 + D.wtAll r
      omega
end
/-- what repr asks of a list -/
structure Rp (l : List D) : Prop where
  ok : D.okAll 9 l = true
  sm : D.smAll l = true
  wt : D.wtAll l ≤ 1000000
def shL (l : List D) : Str := (D.lst l).py.shown
theorem Rp.fit {l : List D} (h : Rp l) : (D.lst l).py.layable0 = true ∧ (D.lst l).py.showable = true ∧ (D.lst l).py.intsShort 13 = true := by
  have hk : (D.lst l).ok 10 = true := h.ok
  obtain ⟨a, b⟩ := py_lay 10 (.lst l) hk
  obtain ⟨c, d, e⟩ := D.rp_ok (.lst l) h.sm
  refine ⟨?_, c, d⟩
  have e' : (D.lst l).py.weight ≤ 2 ^ 20 := Nat.le_trans e (Nat.le_trans h.wt (by decide))
  unfold PyData.layable0
  rw [a, decide_eq_true (show (D.lst l).py.depth ≤ 64 by omega), decide_eq_true e']
  rfl
section
variable {B : Bs} {Γ : Ctx} {R : D → Prop} {te ta : TE} {Pre : List D → Prop} {Post : List D → D → Prop}
theorem vc_reprL {l : List D} (h : Rp l) (q : R (.str (shL l))) : VC B (rReprD B.W.K) [.lst l] R := fun M H v r _ _ _ Q k => by
  cases r with
  | cons r1 r2 =>
    cases r2
    have dp := rep_dp (n := 10) (d := .lst l) h.ok r1
    cases r1 with
    | lst h1 rs =>
      obtain ⟨a, b, c⟩ := h.fit
      exact ⟨_, _, rfl, dp, a, b, c, k _ H _ (fun _ _ => rfl) (Same.refl H) (.str _) q⟩
theorem we_reprN (h : WE B ta Γ fun x => ∃ ns ls nr, x = .net ns ls nr ∧ Pre [x] ∧ ∀ d, Post [x] d → ∃ y, d = .str y ∧ R (.str y)) : WE B (tCB (rReprN B.W.C (SpD B.W.K B.W.C Pre Post)) (tCons ta tNil)) Γ R := fun M σ H S Q q =>
  h M σ H S _ fun v H1 x S1 e1 r1 ⟨ns, ls, nr, ex, hp, k⟩ => by
  subst ex
  have r1' := r1
  cases r1 with
  | net g1 _ _ _ =>
    refine ⟨_, _, _, rfl, (cut_some.mp g1).2, B.W.pot, B.W.old, M, _, S1.fact, .cons r1' .nil, hp, fun v H3 d pt x3 rd hd => ?_⟩
    obtain ⟨y, ey, hr⟩ := k d hd
    subst ey
    exact ⟨y, rd.str_inv, q _ H3 _ (S1.fx x3 pt) (e1.trans x3) (.str _) hr⟩
theorem we_fmtL (h : WE B te Γ fun x => ∃ l, x = .lst l ∧ Rp l ∧ R (.str (shL l))) : WE B (tFmtL B.W.K te) Γ R := fun M σ H S Q q => h M σ H S _ fun v H1 x S1 e1 r1 ⟨l, ex, hp, hr⟩ => by
  subst ex
  have dp := rep_dp (n := 10) (d := .lst l) hp.ok r1
  cases r1 with
  | lst h1 rs =>
    obtain ⟨a, b, c⟩ := hp.fit
    exact ⟨_, _, rfl, dp, a, b, c, q _ H1 _ S1 e1 (.str _) hr⟩
/-- the parts of an f-string -/
def WJ (B : Bs) (ts : List TE) (acc : Str) (Γ : Ctx) (R : Str → Prop) : Prop :=
  ∀ M σ H, Stt B M H σ Γ → ∀ Q : Str → Hp → Prop, (∀ y H', Stt B M H' σ Γ → Fx B.W.pot M H H' → R y → Q y H') → tJs ts acc σ H Q
theorem wj_nil {acc : Str} {R : Str → Prop} (q : R acc) : WJ B [] acc Γ R := fun M σ H S Q k => k acc H S Fx.refl q
theorem wj_cons {ts : List TE} {acc : Str} {R : Str → Prop} (h : WE B te Γ fun d => ∃ y, d = .str y ∧ (acc ++ y).length ≤ sizeLine ∧ WJ B ts (acc ++ y) Γ R) : WJ B (te :: ts) acc Γ R := fun M σ H S Q k => h M σ H S _ fun v H1 d S1 x r ⟨y, ed, hl, h2⟩ => by
  subst ed
  exact ⟨y, r.str_inv, hl, h2 M σ H1 S1 Q fun z H2 S2 x2 hr => k z H2 S2 (x.trans x2) hr⟩
theorem we_js {ts : List TE} (h : WJ B ts Str.empty Γ fun y => R (.str y)) : WE B (fun σ H Q => tJs ts Str.empty σ H fun out H1 => Q (.str out) H1) Γ R := fun M σ H S Q q => h M σ H S _ fun y H' S' x hr => q _ H' _ S' x (.str y) hr
end
/-! THE RULE for a def, under guards -/
section
variable {P : Program} {w : World} {K : PySem.W.Frag} {mg : Str → Option Value} {base : Heap} {C : Addr}
theorem gfnD {x qual : Str} {st : Stmt} {f : Addr} {fd : FuncData} {N ps : List Str} {k : Nat} {Pre : List D → Prop} {Post : List D → D → Prop} (F : FunX K x qual st f fd) (S : FnScope N ps (defScope st)) (len : ∀ ds, Pre ds → ds.length = ps.length)
    (hbody : ∀ (cdv : Value) (A : Around) (outer : List Env) (s : Shared) (H : Hp) (E : XK), Room k (A.deeper (envOfC qual (defScope st) s.heap.objs.size f cdv)) → (A.deeper (envOfC qual (defScope st) s.heap.objs.size f cdv)).guards = some [] →
      ∃ t, PSs (cxOf CX0 P w K mg base N qual (defScope st) f cdv A outer s H E).nox (defBody st) t ∧ ∀ pot old M H ds, Pre ds → WS (bs K C pot old M H) t (startC N ds) (poD (Post ds))) : GFn P w K mg base (k + 1) f fd ps (SpD K C Pre Post) := by
  have pl : ps.length ≤ N.length := by have := congrArg List.length S.pre; rw [List.length_take] at this; omega
  refine gfn_of F S (fun vs H Q E ⟨pot, old, M, ds, _, r, hp, _⟩ => r.length.trans (len ds hp)) fun cdv A outer s H vs Q E hr hg ⟨pot, old, M, ds, fc, r, hp, q⟩ => ?_
  obtain ⟨t, ht, hw⟩ := hbody cdv A outer s H E hr hg
  refine ⟨t, ht, hw pot old M H ds hp M _ H (stt_start fc r (by rw [len ds hp]; exact pl)) _ ⟨fun M1 σ1 H1 Γ1 S1 _ h => ?_, fun M1 σ1 H1 Γ1 v d S1 rd h => ?_, fun _ _ _ _ _ _ _ _ _ _ _ h => h.elim, fun _ _ _ _ _ _ h => h.elim, fun _ _ _ _ _ _ h => h.elim⟩⟩
  · obtain ⟨p, x⟩ := S1.back fc
    exact q .non H1 _ p x .non h
  · obtain ⟨p, x⟩ := S1.back fc
    exact q v H1 d p x (rd.mono (cut_sub S1.sub)) h
end
end K11


/-! K11K: Net.pieces; Net.__repr__. -/
namespace K11
open PySem PySem.Spec PyProof.Rows L2
local macro_rules | `(tactic| walk_at "w") => `(tactic| (first
  | (with_reducible refine ws_seq ?_)
  | (with_reducible refine ws_ret ?_)
  | (with_reducible refine ws_if ?_)
  | (with_reducible refine ws_asg ?_)
  | (with_reducible refine ws_break ?_)
  | (with_reducible refine ws_drop ?_)
  | (with_reducible refine we_var (by with_unfolding_all rfl) ?_)
  | (with_reducible refine we_int ?_)
  | (with_reducible refine we_str ?_)
  | (with_reducible refine we_bl ?_)
  | (with_reducible refine we_non ?_)
  | (with_reducible refine we_ty ?_)
  | (with_reducible refine we_cls ?_)
  | (with_reducible refine wa_cons ?_)
  | (with_reducible refine wa_nil ?_)
  | (with_reducible refine we_cb ?_)
  | (with_reducible refine vc_lenL ?_)
  | (with_reducible refine vc_lenT ?_)
  | (with_reducible refine v2_B0 ?_)
  | (with_reducible refine v2_I0 ?_)
  | (with_reducible refine we_call ?_)
  | (with_reducible refine we_op ?_)
  | (with_reducible refine we_tup ?_)
  | (with_reducible refine we_if ?_)
  | (with_reducible refine we_chain ?_)
  | (with_reducible refine wt_test ?_)
  | (with_reducible refine wt_B ?_)
  | (with_reducible refine wt_not ?_)
  | (with_reducible refine wt_or ?_)
  | (with_reducible refine wt_and ?_)))


/-! ### classes -/
theorem Rch.trans {nb : Str → List Str} {a b c : Str} (h1 : Rch nb a b) (h2 : Rch nb b c) : Rch nb a c := by
  induction h2 with
  | refl => exact h1
  | step _ hy ih => exact .step ih hy
theorem raw_symm {ps : List Lk} {x y : Str} (h : y ∈ raw ps x) : x ∈ raw ps y := by
  rcases raw_mem.mp h with z | ⟨z, ne⟩
  · by_cases e : x = y
    · subst e; exact h
    · exact raw_mem.mpr (.inr ⟨z, e⟩)
  · exact raw_mem.mpr (.inl z)
theorem Rch.symm {ps : List Lk} {a b : Str} (h : Rch (raw ps) a b) : Rch (raw ps) b a := by
  induction h with
  | refl => exact .refl
  | step _ hy ih => exact (Rch.step .refl (raw_symm hy)).trans ih
theorem pcS_mem {ks : List Str} {nb : Str → List Str} {s x : Str} : x ∈ pcS ks nb s ↔ x ∈ ks ∧ Rch nb s x := by
  unfold pcS
  rw [(srtS_perm _).mem_iff, List.mem_filter]
  simp
theorem pcS_same {ks : List Str} {ps : List Lk} {a x : Str} (h : Rch (raw ps) a x) : pcS ks (raw ps) x = pcS ks (raw ps) a := by
  unfold pcS
  congr 1
  refine List.filter_congr fun y _ => ?_
  rw [decide_eq_decide]
  exact ⟨fun z => h.trans z, fun z => h.symm.trans z⟩
theorem pcS_head {ks L : List Str} {ps : List Lk} {a : Str} {r : List Str} (hL : L = a :: r) (so : L.Pairwise fun x y => leS x y = true) (ha : a ∈ ks) (cl : ∀ y ∈ ks, Rch (raw ps) a y → y ∈ L) : (pcS ks (raw ps) a)[0]? = some a := by
  have ma : a ∈ pcS ks (raw ps) a := pcS_mem.mpr ⟨ha, .refl⟩
  have sp : (pcS ks (raw ps) a).Pairwise fun x y => leS x y = true := srtS_pw _
  generalize hp : pcS ks (raw ps) a = t at ma sp
  cases t with
  | nil => cases ma
  | cons h t =>
    have mh : h ∈ pcS ks (raw ps) a := by rw [hp]; exact List.mem_cons_self
    obtain ⟨h1, h2⟩ := pcS_mem.mp mh
    have mL := cl h h1 h2
    subst hL
    rw [List.pairwise_cons] at so sp
    rcases List.mem_cons.mp mL with e | mL
    · rw [e]; rfl
    · rcases List.mem_cons.mp ma with e | ma
      · rw [← e]; rfl
      · have e := leS_anti (so.1 h mL) (sp.1 a ma)
        rw [← e]; rfl
/-- one turn of the search for pieces -/
theorem pieces_turn {ks L : List Str} {ps : List Lk} {a : Str} {r : List Str} (hL : L = a :: r) (nd : L.Nodup) (so : L.Pairwise fun x y => leS x y = true) (sub : ∀ x ∈ L, x ∈ ks) (cl : ∀ x ∈ L, ∀ y ∈ ks, Rch (raw ps) x y → y ∈ L) :
    (L.filter fun s => decide ((pcS ks (raw ps) s)[0]? = some s)).map (fun s => pcS ks (raw ps) s) =
      pcS ks (raw ps) a :: ((L.filter fun x => !decide (x ∈ pcS ks (raw ps) a)).filter fun s => decide ((pcS ks (raw ps) s)[0]? = some s)).map fun s => pcS ks (raw ps) s := by
  have ma : a ∈ L := by rw [hL]; exact List.mem_cons_self
  have hd := pcS_head hL so (sub a ma) (cl a ma)
  subst hL
  rw [List.nodup_cons] at nd
  have ma2 : a ∈ pcS ks (raw ps) a := pcS_mem.mpr ⟨sub a ma, .refl⟩
  rw [List.filter_cons, if_pos (decide_eq_true hd), List.map_cons, List.filter_cons, if_neg (by simp [ma2]), List.filter_filter]
  congr 2
  refine List.filter_congr fun x hx => ?_
  rw [Bool.eq_iff_iff]
  simp only [decide_eq_true_eq, Bool.and_eq_true, Bool.not_eq_true', decide_eq_false_iff_not]
  refine ⟨fun h => ⟨h, fun m => ?_⟩, fun h => h.1⟩
  have e := pcS_same (ks := ks) (pcS_mem.mp m).2
  rw [e, hd] at h
  exact nd.1 ((Option.some.inj h) ▸ hx)
theorem rch_near {ns : List Str} {ls : List Lk} (W : Prs ns ls) {s x : Str} (hs : s ∈ ns) : Rch (nbOf (nearOf ns ls)) s x ↔ Rch (raw ls) s x := by
  have nb : ∀ y, y ∈ ns → ∀ z, z ∈ nbOf (nearOf ns ls) y ↔ z ∈ raw ls y := fun y hy z => by
    unfold nbOf
    rw [nearOf_look hy]
    exact (srtS_perm _).mem_iff
  constructor
  · intro h
    induction h with
    | refl => exact .refl
    | step _ hy ih => exact .step ih ((nb _ (W.rch hs ih) _).mp hy)
  · intro h
    induction h with
    | refl => exact .refl
    | step h' hy ih => exact .step ih ((nb _ (W.rch hs h') _).mpr hy)
theorem grf_near {ns : List Str} {ls : List Lk} (W : Prs ns ls) : Grf (nearOf ns ls) := by
  refine ⟨by unfold nearOf; rw [List.length_map]; exact W.kl, fun s hs => W.ko s (by rwa [near_keys] at hs), fun s hs y hy => ?_⟩
  rw [near_keys] at hs ⊢
  unfold nbOf at hy
  rw [nearOf_look hs] at hy
  exact (W.nb ((srtS_perm _).mem_iff.mp hy)).2
theorem piece_eq {ns : List Str} {ls : List Lk} (W : Prs ns ls) {s : Str} {r : List D} (hs : s ∈ ns) (h : IsPiece (nearOf ns ls) s r) : r = sS (pcS ns (raw ls) s) := by
  obtain ⟨f, e, nd, hf⟩ := h
  have hf' : ∀ x, x ∈ f ↔ Rch (raw ls) s x := fun x => (hf x).trans (rch_near W hs)
  rw [e, pc_uniq W.kn nd hf' fun x hx => W.rch hs ((hf' x).mp hx)]

/-! ### new lists in a new list -/
mutual
def D.nonl : D → Bool
  | .nl _ => false
  | .lst l => D.nonlAll l
  | .tup l => D.nonlAll l
  | .dic l => D.nonlK l
  | _ => true
def D.nonlAll : List D → Bool
  | [] => true
  | d :: r => D.nonl d && D.nonlAll r
def D.nonlK : List (Str × D) → Bool
  | [] => true
  | (_, d) :: r => D.nonl d && D.nonlK r
end
theorem nonl_sS : ∀ l : List Str, D.nonlAll (sS l) = true
  | [] => rfl
  | _ :: l => by show (true && D.nonlAll (sS l)) = true; rw [nonl_sS l]; rfl
theorem rep_net {W W' : Wd} {H : Hp} (hK : W.K = W'.K) (hC : W.C = W'.C) {v : V} {ns : List Str} {ls : List Lk} {nr : List (Str × List Str)} (h : Rep W H v (.net ns ls nr)) : Rep W' H v (.net ns ls nr) := by
  have tS : ∀ {v : V} {l : List Str}, Rep W H v (.tup (sS l)) → Rep W' H v (.tup (sS l)) := fun h => by
    cases h with
    | tup h1 rs =>
      have e := rs.strs
      subst e
      exact .tup (hK ▸ h1) (Reps.of_strs _)
  have tP : ∀ {v : V} {l : List Lk}, Rep W H v (.tup (dPs l)) → Rep W' H v (.tup (dPs l)) := fun h => by
    cases h with
    | tup h1 rs => exact .tup (hK ▸ h1) (links_rep (links_inv rs))
  have tK : ∀ {kvs : List (Key × V)} {l : List (Str × List Str)}, RepK W H kvs (nearD l) → RepK W' H kvs (nearD l) := fun {kvs l} h => by
    induction l generalizing kvs with
    | nil => cases h; exact .nil
    | cons p l ih =>
      cases h with
      | cons r t => exact .cons (tS r) (ih t)
  cases h with
  | net h1 h2 h3 h4 =>
    cases h4 with
    | dic g1 g2 => exact .net (hC ▸ h1) (tS h2) (tP h3) (.dic g1 (tK g2))
def nlD (l : List (List Str)) : List D := l.map fun x => .nl (sS x)
theorem nl_conv {W W' : Wd} {H : Hp} : ∀ {xs : List V} {l : List (List Str)}, Reps W H xs (nlD l) → Reps W' H xs (lsD l)
  | _, [], h => by cases h; exact .nil
  | _, x :: l, h => by
    cases h with
    | cons a r =>
      cases a with
      | nl h1 rs n =>
        have e := rs.strs
        subst e
        exact .cons (.lst h1 (Reps.of_strs _)) (nl_conv (l := l) r)
abbrev fresh (K : PySem.W.Frag) (C pot : Addr) (H : Hp) : Wd := ⟨K, C, pot, fun a => H a ≠ none⟩
def SpN (K : PySem.W.Frag) (C : Addr) (Pre : List D → Prop) (Post : List D → List D → Prop) : Sp := fun vs H Q _ => ∃ (pot : Addr) (M : Addr → Prop) (ds : List D), Fact pot M H ∧ Reps (fresh K C pot H) (cut M H) vs ds ∧ Pre ds ∧
  ∀ p xs H' l, PotAt H' pot → Fx pot M H H' → H p = none → H' p = some (.lst xs) → Reps (fresh K C pot H) (cut (addM M p) H') xs l → Post ds l → Q (.ref p) H'
section
variable {B : Bs} {Γ : Ctx} {R : D → Prop} {te ta tv : TE} {P : Po}
theorem we_nl (hod : ∀ a, B.W.old a → B.H0 a ≠ none) (h : WO B te Γ fun l => R (.nl l)) : WE B te Γ R := fun M σ H S Q q => h M σ H S _ fun p xs H' l S' x f hp r hr =>
  q _ H' _ S' x (.nl (cut_some.mpr ⟨S.notM f, hp⟩) (r.mono cut_add) fun o => hod p o (S.free0 f)) hr
/-- o.pieces(), as data -/
theorem wo_methN {m : Str} {Pre : List D → Prop} {Post : List D → List D → Prop} {R : List D → Prop} (hm : (m == "own_nodes" || m == "own_links" || m == "own_near") = false) (h : WE B ta Γ fun x => ∃ ns ls nr L, x = .net ns ls nr ∧ Pre [x] ∧ (∀ l, Post [x] l → l = nlD L) ∧ R (lsD L)) :
    WO B (tMeth B.W.C m (SpN B.W.K B.W.C Pre Post) [] E0 ta tNil) Γ R := fun M σ H S Q q => h M σ H S _ fun v H1 x S1 x1 r ⟨ns, ls, nr, L, e, hp, hk, hr⟩ => by
  subst e
  have r' := rep_net (W := B.W) (W' := fresh B.W.K B.W.C B.W.pot H1) rfl rfl r
  cases r with
  | net h1 h2 h3 h4 =>
    refine ⟨_, _, _, rfl, (cut_some.mp h1).2, netFs_no _ _ _ hm, ?_⟩
    exact ⟨B.W.pot, M, _, S1.fact, .cons r' .nil, hp, fun p xs H3 l pt x3 f hq rd hd => q p xs H3 (lsD L) (S1.fx x3 pt) (x1.trans x3) (fresh_ext S1 x1 f) hq (nl_conv (hk l hd ▸ rd)) hr⟩
/-- o.pieces()[0].append(..) -/
theorem ws_piecesAppend {m : Str} {Pre : List D → Prop} {Post : List D → List D → Prop} {z : Str} (hm : (m == "own_nodes" || m == "own_links" || m == "own_near") = false) (h : WE B ta Γ fun x => ∃ ns ls nr L, x = .net ns ls nr ∧ Pre [x] ∧ (∀ l, Post [x] l → l = nlD L) ∧ 1 ≤ L.length ∧ (∀ l ∈ L, l.length ≤ 5000) ∧ P.nx Γ) :
    WS B (tDrop (tBM B.W.K "list" rAppend (tOp (rIxL B.W.K) (tMeth B.W.C m (SpN B.W.K B.W.C Pre Post) [] E0 ta tNil) (tC (.int 0))) (tCons (tC (.str z)) tNil))) Γ P := fun M σ H S E e => by
  show ta σ H _
  refine h M σ H S _ fun v H1 x S1 x1 r ⟨ns, ls, nr, L, ex, hp, hk, hL, hl, hr⟩ => ?_
  subst ex
  have r' := rep_net (W := B.W) (W' := fresh B.W.K B.W.C B.W.pot H1) rfl rfl r
  cases r with
  | net h1 h2 h3 h4 =>
    refine ⟨_, _, _, rfl, (cut_some.mp h1).2, netFs_no _ _ _ hm, ?_⟩
    refine ⟨B.W.pot, M, _, S1.fact, .cons r' .nil, hp, fun p xs H3 l pt x3 f hq rd hd => ?_⟩
    rw [hk l hd] at rd
    cases L with
    | nil => simp at hL
    | cons l0 L =>
      cases rd with
      | cons a rs =>
        cases a with
        | nl g1 g2 g3 =>
          rename_i b ys
          have fb : H1 b = none := Classical.byContradiction g3
          have gb : H3 b = some (.lst ys) := (cut_some.mp g1).2
          have S3 := S1.fx x3 pt
          obtain ⟨S4, o⟩ := S1.own S3 x3 fb gb
          refine ⟨p, _, 0, .ref b, rfl, rfl, .of hq, atI_nat (j := 0) rfl, (show tyV B.W.K "list" (.ref b) H3 from .inl ⟨rfl, _, .of gb⟩), b, ys, _, rfl, rfl, gb, ?_, ?_⟩
          · have := g2.length
            rw [sS_len] at this
            have := hl l0 List.mem_cons_self
            exact Nat.lt_of_le_of_lt (show ys.length ≤ 5000 by omega) (by decide)
          · exact e.nx _ σ _ Γ (S4.touch (o := .lst (ys ++ [.str z])) (.inr rfl) o.np o.h0 (S1.apart (S1.notM fb))) ((x1.cut.trans (cut_gain fb x3.ext)).trans (cut_upd (.inr rfl))) hr
end
section
variable {P : Program} {w : World} {K : PySem.W.Frag} {mg : Str → Option Value} {base : Heap} {C : Addr}
theorem fnN {x qual : Str} {st : Stmt} {f : Addr} {fd : FuncData} {N ps : List Str} {k : Nat} {Pre : List D → Prop} {Post : List D → List D → Prop} (F : FunX K x qual st f fd) (S : FnScope N ps (defScope st)) (len : ∀ ds, Pre ds → ds.length = ps.length)
    (hbody : ∀ (cdv : Value) (A : Around) (outer : List Env) (s : Shared) (H : Hp) (E : XK), Room k (A.deeper (envOfC qual (defScope st) s.heap.objs.size f cdv)) →
      ∃ t, PSs (cxOf CX0 P w K mg base N qual (defScope st) f cdv A outer s H E).nox (defBody st) t ∧ ∀ pot M H ds, Pre ds → WS ⟨fresh K C pot H, M, H⟩ t (startC N ds) (poO (Post ds))) : FnOk P w K mg base CX0 (k + 1) f fd ps (SpN K C Pre Post) := by
  have pl : ps.length ≤ N.length := by have := congrArg List.length S.pre; rw [List.length_take] at this; omega
  refine F.ok S (fun vs H Q E ⟨pot, M, ds, _, r, hp, _⟩ => r.length.trans (len ds hp)) fun cdv A outer s H vs Q E hr ⟨pot, M, ds, fc, r, hp, q⟩ => ?_
  obtain ⟨t, ht, hw⟩ := hbody cdv A outer s H E hr
  refine ⟨t, ht, hw pot M H ds hp M _ H (stt_start fc r (by rw [len ds hp]; exact pl)) _ ⟨fun _ _ _ _ _ _ h => h.elim, fun _ _ _ _ _ _ _ _ h => h.elim, fun M1 σ1 H1 Γ1 p xs l S1 o hq rd h => ?_, fun _ _ _ _ _ _ h => h.elim, fun _ _ _ _ _ _ h => h.elim⟩⟩
  obtain ⟨pt, x⟩ := S1.back fc
  exact q p xs H1 l pt x o.h0 hq (rd.mono (cut_sub fun b z => z.elim (S1.sub b) fun e => e ▸ o.m)) h

abbrev sPiecesM : Stmt := inClass (top 27) 13
abbrev nPiecesM : List Str := ["self", "found", "left", "piece", "node"]
theorem scPiecesM : FnScope nPiecesM ["self"] (defScope sPiecesM) := ⟨rfl, rfl, rfl, by decide +kernel, rfl, by decide +kernel, by decide +kernel⟩
def preSelfP : List D → Prop := fun ds => ∃ ns ls, ds = [.net ns ls (nearOf ns ls)] ∧ Prs ns ls ∧ srtS ns = ns
def postPcs : List D → List D → Prop := fun ds l => ∀ ns ls nr, ds = [.net ns ls nr] → l = nlD (pcsL ns ls)
theorem mt_pieces (F : Fm K C "pieces" "Net.pieces" ["self"] sPiecesM) (M : Mb mg) (T : NetC K C) (c_joined_to : Cl P w K mg base 1 "joined_to" ["near", "start"] (SpO K C preJoin postJoin)) :
    Mt P w K mg base C 2 "pieces" ["self"] (SpN K C preSelfP postPcs) := F.mt fun f fd F => by
  refine fnN F scPiecesM (fun ds ⟨_, _, e, _⟩ => by rw [e]; rfl) fun cdv A outer s H E hr => ?_
  refine ⟨_, (pss_cons (ps_set (i := 1) scPiecesM.nd rfl (by first | exact Or.inl rfl | exact Or.inr rfl) (pe_lst pa_nil))
    (pss_cons (ps_set (i := 2) scPiecesM.nd rfl (by first | exact Or.inl rfl | exact Or.inr rfl) (pe_callTy call_list2 (by rfl) M.list (by decide +kernel) (pa_cons (pe_fld (pv 0) rfl) pa_nil)))
    (pss_cons (ps_while PassesOwn.never (pt_cmpR (op_neD hr.units) (pv 2) (pe_lst pa_nil) (nomark _)) (pss_cons (ps_set (i := 3) scPiecesM.nd rfl (by first | exact Or.inl rfl | exact Or.inr rfl) (pcl c_joined_to (hr.mono (by decide)) (pa_cons (pe_fld (pv 0) rfl) (pa_cons (pe_ix ix_list (pv 2) pe_int (fun _ _ => rfl)) pa_nil))))
    (pss_cons (ps_expr (pe_bm PySem.F.plainAttrs_list PySem.F.slot_list_append PySem.F.type_list_append mt_append (pv 1) (pa_cons (pv 3) pa_nil)))
    (pss_one (ps_setLc (i := 2) (own := [("node", 4)]) (by rfl) scPiecesM.nd rfl rfl (sw_true rfl rfl rfl (by decide +kernel)) (pi_list (pv 2)) (blkOk_by (N := nPiecesM) (sc := defScope sPiecesM) (by decide +kernel)) (fun _ _ _ _ _ => (pg_name (i := 4) scPiecesM.nd rfl (by first | exact Or.inl rfl | exact Or.inr rfl))) (fun _ _ _ _ _ => (pts_one (pt_cmpR (op_notIn_seqK (K := K) rfl) (pv 4) (pv 3) (by rfl)))) (fun _ _ _ _ _ => (pv 4)))))))
    (pss_one (ps_ret (pv 1)))))), fun pot M H ds hp => ?_⟩
  obtain ⟨ns, ls, rfl, W, so⟩ := hp
  dsimp only [cxOf, Cx.nox, Cx.wish]
  show WS _ _ [.da (.net ns ls (nearOf ns ls)), .no, .no, .no, .no] _
  have k60 := W.kl
  have sp : ns.Pairwise fun a b => leS a b = true := so ▸ srtS_pw ns
  refine ws_seq (ws_own (wo_lst (wa_nil ⟨by decide, ?_⟩)))
  refine ws_seq (ws_asg (WO.we (wo_cb (wa_cons (we_nodes T (we_var rfl ⟨_, _, _, rfl, wa_nil (vco_listT (wg_name ?_))⟩))))))
  show WS _ _ [.da (.net ns ls (nearOf ns ls)), .ow (nlD []), .da (.lst (sS ns)), .no, .no] _
  refine ws_seq (ws_while (fun m Γ1 => ∃ (F0 : List (List Str)) (L : List Str) (e3 : Ent), Γ1 = [.da (.net ns ls (nearOf ns ls)), .ow (nlD F0), .da (.lst (sS L)), e3, .no] ∧ L.Nodup ∧ (L.Pairwise fun a b => leS a b = true) ∧ (∀ x ∈ L, x ∈ ns) ∧ (∀ x ∈ L, ∀ y ∈ ns, Rch (raw ls) x y → y ∈ L) ∧
    F0 ++ ((L.filter fun s => decide ((pcS ns (raw ls) s)[0]? = some s)).map fun s => pcS ns (raw ls) s) = pcsL ns ls ∧ F0.length + L.length ≤ 60 ∧ m = L.length) ns.length ⟨[], ns, _, rfl, W.kn, sp, fun _ h => h, fun x hx y hy _ => hy, rfl, by simpa using k60, rfl⟩ ?_)
  rintro m Γ1 ⟨F0, L, e3, rfl, nd, pw, sub, cl, tot, len, rfl⟩
  repeat (walk_at "w")
  refine WO.we (wo_lst (wa_nil ⟨by decide, ?_⟩))
  refine v2_neD (ok_sS (n := 9) fun x hx => name_strOk (W.ko x (sub x hx))) rfl (nob_sS L) rfl fun b hb => ⟨_, rfl, fun h => ?_, fun h => ?_⟩
  · have hne : L ≠ [] := fun z => by
      subst z
      rw [hb.mpr rfl] at h
      cases h
    obtain ⟨a, r, rfl⟩ : ∃ a r, L = a :: r := by
      cases L with
      | nil => exact absurd rfl hne
      | cons a r => exact ⟨a, r, rfl⟩
    have ka : a ∈ ns := sub a List.mem_cons_self
    refine ws_seq (ws_asg (we_nl (fun a h => h) (wo_call (wa_cons (we_near T (we_var rfl ⟨_, _, _, rfl, wa_cons (we_op ?_)⟩))))))
    repeat (walk_at "w")
    refine v2_ixLn (by decide) (by rw [sS_len, List.length_cons]; omega) fun d hd => ?_
    cases (show some (D.str a) = some d from hd)
    repeat (walk_at "w")
    refine ⟨⟨_, a, rfl, grf_near W, by rw [near_keys]; exact ka⟩, fun rr hrr => ?_⟩
    have er := piece_eq W ka (hrr _ a rfl)
    subst er
    refine wg_name ?_
    show WS _ _ [.da (.net ns ls (nearOf ns ls)), .ow (nlD F0), .da (.lst (sS (a :: r))), .da (.nl (sS (pcS ns (raw ls) a))), .no] _
    refine ws_seq (ws_append (i := 1) rfl ?_)
    repeat (walk_at "w")
    refine ⟨by simp [nlD]; omega, ?_⟩
    rw [show nlD F0 ++ [D.nl (sS (pcS ns (raw ls) a))] = nlD (F0 ++ [pcS ns (raw ls) a]) by simp [nlD]]
    show WS _ _ [.da (.net ns ls (nearOf ns ls)), .ow (nlD (F0 ++ [pcS ns (raw ls) a])), .da (.lst (sS (a :: r))), .da (.nl (sS (pcS ns (raw ls) a))), .no] _
    have lr : r.length + 1 ≤ 60 := by rw [List.length_cons] at len; omega
    refine ws_asg (WO.we (wo_filt (f := D.str) (l := a :: r) (fun x => !decide (x ∈ pcS ns (raw ls) a)) (by show 4 < 5; decide) (wi_list (we_var rfl ⟨_, rfl, rfl, by rw [List.length_cons]; omega⟩)) (fun x hx => ?_) (wg_name ?_)))
    · show WT _ _ [.da (.net ns ls (nearOf ns ls)), .ow (nlD (F0 ++ [pcS ns (raw ls) a])), .da (.lst (sS (a :: r))), .da (.nl (sS (pcS ns (raw ls) a))), .da (.str x)] _
      repeat (walk_at "w")
      exact v2_nl (v2_inL ⟨_, rfl, rfl⟩)
    have lt : ((a :: r).filter fun x => !decide (x ∈ pcS ns (raw ls) a)).length < (a :: r).length := by
      have ma2 : a ∈ pcS ns (raw ls) a := pcS_mem.mpr ⟨ka, .refl⟩
      rw [List.filter_cons, if_neg (by simp [ma2]), List.length_cons]
      exact Nat.lt_succ_of_le (List.length_filter_le _ _)
    refine ⟨_, lt, F0 ++ [pcS ns (raw ls) a], _, _, rfl, nd.filter _, pw.filter _, fun x hx => sub x (List.mem_filter.mp hx).1, fun x hx y hy hxy => ?_, ?_, by rw [List.length_append, List.length_singleton]; omega, rfl⟩
    · obtain ⟨h1, h2⟩ := List.mem_filter.mp hx
      refine List.mem_filter.mpr ⟨cl x h1 y hy hxy, ?_⟩
      have h3 : x ∉ pcS ns (raw ls) a := by simpa using h2
      have : y ∉ pcS ns (raw ls) a := fun z => h3 (pcS_mem.mpr ⟨sub x h1, (pcS_mem.mp z).2.trans hxy.symm⟩)
      simpa using this
    · rw [← tot, pieces_turn rfl nd pw sub cl, List.append_assoc]
      rfl
  · have e : L = [] := by
      have hb' : b = true := by simpa using h
      exact sS_inj.mp (D.lst.inj (hb.mp hb'))
    subst e
    refine ws_retV (i := 1) rfl ?_
    intro ns' ls' nr' e
    obtain ⟨e1, e2, _, _⟩ := net_inj e
    subst e1 e2
    rw [← tot]
    simp

/-! ### repr -/
abbrev sReprM : Stmt := inClass (top 27) 25
abbrev nReprM : List Str := ["self"]
theorem scReprM : FnScope nReprM ["self"] (defScope sReprM) := ⟨rfl, rfl, rfl, by decide +kernel, rfl, by decide +kernel, by decide +kernel⟩
theorem Rp.sS {l : List Str} (h : ∀ s ∈ l, PyData.strOk s = true ∧ s.length ≤ 1000) (hl : l.length ≤ 100) : Rp (sS l) := by
  refine ⟨ok_sS fun s hs => (h s hs).1, ?_, ?_⟩
  · clear h hl
    induction l with
    | nil => rfl
    | cons s l ih => show (true && D.smAll (K11.sS l)) = true; rw [ih]; rfl
  · have : D.wtAll (K11.sS l) ≤ 1001 * l.length := by
      clear hl
      induction l with
      | nil => exact Nat.le_refl _
      | cons s l ih =>
        have h1 := (h s List.mem_cons_self).2
        have h2 := ih fun x hx => h x (List.mem_cons_of_mem _ hx)
        show s.length + 1 + D.wtAll (K11.sS l) ≤ 1001 * (l.length + 1)
        omega
    omega
theorem Rp.dPs {l : List Lk} (h : ∀ p ∈ l, (PyData.strOk p.1 = true ∧ p.1.length ≤ 1000) ∧ PyData.strOk p.2 = true ∧ p.2.length ≤ 1000) (hl : l.length ≤ 200) : Rp (dPs l) := by
  refine ⟨ok_dPs (n := 8) fun s hs => ⟨(h s hs).1.1, (h s hs).2.1⟩, ?_, ?_⟩
  · clear h hl
    induction l with
    | nil => rfl
    | cons s l ih => show ((true && (true && true)) && D.smAll (K11.dPs l)) = true; rw [ih]; rfl
  · have : D.wtAll (K11.dPs l) ≤ 2003 * l.length := by
      clear hl
      induction l with
      | nil => exact Nat.le_refl _
      | cons s l ih =>
        have h1 := h s List.mem_cons_self
        have h2 := ih fun x hx => h x (List.mem_cons_of_mem _ hx)
        show (s.1.length + 1 + (s.2.length + 1 + 0)) + 1 + D.wtAll (K11.dPs l) ≤ 2003 * (l.length + 1)
        omega
    omega
def netS (ns : List Str) (ls : List Lk) : Str := (("Net(" ++ shL (sS ns) : Str) ++ ", " ++ shL (dPs ls) : Str) ++ ")"
def RpN (ns : List Str) (ls : List Lk) : Prop := Rp (sS ns) ∧ Rp (dPs ls) ∧ (shL (sS ns)).length ≤ 1000000 ∧ (shL (dPs ls)).length ≤ 1000000
def preRepr : List D → Prop := fun ds => ∃ ns ls nr, ds = [.net ns ls nr] ∧ RpN ns ls
def postRepr : List D → D → Prop := fun ds d => ∀ ns ls nr, ds = [.net ns ls nr] → d = .str (netS ns ls)
theorem app_len (a b : Str) : (a ++ b).length = a.length + b.length := strLen_append a b
theorem empty_app (a : Str) : Str.empty ++ a = a := Str.append_left_empty rfl
theorem gmt_repr (F : Fm K C "__repr__" "Net.__repr__" ["self"] sReprM) (M : Mb mg) (T : NetC K C) : GMt P w K mg base C 1 "__repr__" ["self"] (SpD K C preRepr postRepr) := F.gmt fun f fd F => by
  refine gfnD F scReprM (fun ds ⟨_, _, _, e, _⟩ => by rw [e]; rfl) fun cdv A outer s H E hr hg => ?_
  have h65 := hu65 hr
  refine ⟨_, (pss_one (ps_ret (pe_joined (.cons pe_str (.cons (pe_fmtL hg h65 (pe_callTy call_list2 (by rfl) M.list (by decide +kernel) (pa_cons (pe_fld (pv 0) rfl) pa_nil))) (.cons pe_str (.cons (pe_fmtL hg h65 (pe_callTy call_list2 (by rfl) M.list (by decide +kernel) (pa_cons (pe_fld (pv 0) rfl) pa_nil))) (.cons pe_str .nil)))))))), fun pot old M H ds hp => ?_⟩
  obtain ⟨ns, ls, nr, rfl, r1, r2, z1, z2⟩ := hp
  dsimp only [cxOf, Cx.nox, Cx.wish]
  show WS _ _ [.da (.net ns ls nr)] _
  refine ws_ret (we_js (wj_cons (we_str ⟨_, rfl, by decide, ?_⟩)))
  rw [empty_app]
  refine wj_cons (we_fmtL (WO.we (wo_cb (wa_cons (we_nodes T (we_var rfl ⟨_, _, _, rfl, wa_nil (vco_listT ⟨_, rfl, r1, _, rfl, ?_, ?_⟩)⟩))))))
  · rw [app_len]; show 4 + _ ≤ _; rw [sizeLine_eq]; omega
  refine wj_cons (we_str ⟨_, rfl, ?_, ?_⟩)
  · rw [app_len, app_len]; show 4 + _ + 2 ≤ _; rw [sizeLine_eq]; omega
  refine wj_cons (we_fmtL (WO.we (wo_cb (wa_cons (we_links T (we_var rfl ⟨_, _, _, rfl, wa_nil (vco_listT ⟨_, rfl, r2, _, rfl, ?_, ?_⟩)⟩))))))
  · rw [app_len, app_len, app_len]; show 4 + _ + 2 + _ ≤ _; rw [sizeLine_eq]; omega
  refine wj_cons (we_str ⟨_, rfl, ?_, wj_nil ?_⟩)
  · rw [app_len, app_len, app_len, app_len]; show 4 + _ + 2 + _ + 1 ≤ _; rw [sizeLine_eq]; omega
  intro ns' ls' nr' e
  obtain ⟨e1, e2, _, _⟩ := net_inj e
  subst e1 e2
  rfl
end
end K11


/-! K11AA: how long repr's texts are, and of what signs; _law_shown, _law_drawn. -/
namespace K11
open PySem PySem.Spec PyProof.Rows L2
local macro_rules | `(tactic| walk_at "w") => `(tactic| (first
  | (with_reducible refine ws_seq ?_)
  | (with_reducible refine ws_ret ?_)
  | (with_reducible refine ws_if ?_)
  | (with_reducible refine ws_asg ?_)
  | (with_reducible refine ws_break ?_)
  | (with_reducible refine ws_drop ?_)
  | (with_reducible refine we_var (by with_unfolding_all rfl) ?_)
  | (with_reducible refine we_int ?_)
  | (with_reducible refine we_str ?_)
  | (with_reducible refine we_bl ?_)
  | (with_reducible refine we_non ?_)
  | (with_reducible refine we_ty ?_)
  | (with_reducible refine we_cls ?_)
  | (with_reducible refine wa_cons ?_)
  | (with_reducible refine wa_nil ?_)
  | (with_reducible refine we_cb ?_)
  | (with_reducible refine vc_lenL ?_)
  | (with_reducible refine vc_lenT ?_)
  | (with_reducible refine v2_B0 ?_)
  | (with_reducible refine v2_I0 ?_)
  | (with_reducible refine we_call ?_)
  | (with_reducible refine we_op ?_)
  | (with_reducible refine we_tup ?_)
  | (with_reducible refine we_if ?_)
  | (with_reducible refine we_chain ?_)
  | (with_reducible refine wt_test ?_)
  | (with_reducible refine wt_B ?_)
  | (with_reducible refine wt_not ?_)
  | (with_reducible refine wt_or ?_)
  | (with_reducible refine wt_and ?_)))


theorem v2_addL {B : Bs} {R : D → Prop} {a b : Str} (hl : a.length + b.length ≤ 1000000) (q : R (.str (a ++ b))) : V2 B (fun x y H Q => ∃ i j, x = .str i ∧ y = .str j ∧ i.length + j.length ≤ sizeLine ∧ Q (.str (i ++ j)) H) (.str a) (.str b) R :=
  v2_same (fun M H v u r1 r2 Q k => ⟨a, b, r1.str_inv, r2.str_inv, Nat.le_trans hl (by decide), k _ (.str _)⟩) q
def asc (s : Str) : Prop := ∀ c ∈ s.cps.toList, c < 128
theorem asc_app {a b : Str} (h1 : asc a) (h2 : asc b) : asc (a ++ b) := fun c hc => by
  rw [app_cps] at hc
  exact (List.mem_append.mp hc).elim (h1 c) (h2 c)
theorem asc_join {sep : Str} (hs : asc sep) : ∀ {ts : List Str}, (∀ t ∈ ts, asc t) → asc (Str.join sep ts) := fun {ts} h c hc => by
  have e := TL.tl_join sep ts
  have hc' : c ∈ TL.joinL (TL.tl sep) (ts.map TL.tl) := by rw [← e]; exact hc
  clear hc e
  induction ts with
  | nil => cases hc'
  | cons t ts ih =>
    cases ts with
    | nil => exact h t List.mem_cons_self c hc'
    | cons u ts =>
      rcases List.mem_append.mp (show c ∈ TL.tl t ++ (TL.tl sep ++ TL.joinL (TL.tl sep) ((u :: ts).map TL.tl)) from hc') with z | z
      · exact h t List.mem_cons_self c z
      · rcases List.mem_append.mp z with z | z
        · exact hs c z
        · exact ih (fun x hx => h x (List.mem_cons_of_mem _ hx)) z
theorem asc_list {ts : List Str} (h : ∀ t ∈ ts, asc t) : asc (listText ts) := by
  rw [listText_eq_join]
  exact asc_app (asc_app (by intro c hc; revert c; decide +kernel) (asc_join (by intro c hc; revert c; decide +kernel) h)) (by intro c hc; revert c; decide +kernel)
theorem asc_tuple {ts : List Str} (h : ∀ t ∈ ts, asc t) : asc (tupleText ts) := by
  unfold tupleText
  refine asc_app (asc_app (by intro c hc; revert c; decide +kernel) (asc_join (by intro c hc; revert c; decide +kernel) h)) ?_
  split
  · intro c hc; revert c; decide +kernel
  · intro c hc; revert c; decide +kernel
theorem repr_signs : ∀ q ∈ [34, 39], ∀ c ∈ letS.cps.toList, ∀ d ∈ Builtin.Str.reprChar q c, d < 128 := by decide +kernel
theorem asc_repr {s : Str} (h : nameOk s = true) : asc (reprText s) := by
  have hl := (nameOk_iff.mp h).2.2
  have hq : reprQuote s = 34 ∨ reprQuote s = 39 := by unfold reprQuote; split <;> simp
  generalize hQ : reprQuote s = q at hq
  intro c hc
  unfold reprText at hc
  rw [hQ] at hc
  have key : ∀ (l : List Nat) (acc : Array Nat), (∀ x ∈ l, x ∈ letS.cps.toList) → (∀ x ∈ acc.toList, x < 128) → ∀ x ∈ (l.foldl (fun out c => out ++ (Builtin.Str.reprChar q c).toArray) acc).toList, x < 128 := by
    intro l
    induction l with
    | nil => intro acc _ h2 x hx; exact h2 x hx
    | cons a l ih =>
      intro acc h1 h2
      refine ih _ (fun x hx => h1 x (List.mem_cons_of_mem _ hx)) fun x hx => ?_
      rw [Array.toList_append] at hx
      rcases List.mem_append.mp hx with z | z
      · exact h2 x z
      · exact repr_signs q (by rcases hq with e | e <;> rw [e] <;> simp) a (h1 a List.mem_cons_self) x (by simpa using z)
  have q128 : q < 128 := by rcases hq with e | e <;> rw [e] <;> decide
  have hc' : c ∈ ((s.cps.foldl (fun out c => out ++ (Builtin.Str.reprChar q c).toArray) #[q]).push q).toList := hc
  rw [Array.toList_push, ← Array.foldl_toList] at hc'
  rcases List.mem_append.mp hc' with z | z
  · exact key s.cps.toList #[q] hl (fun x hx => by simp at hx; rw [hx]; exact q128) c z
  · rw [List.mem_singleton.mp z]; exact q128
theorem asc_strOk {s : Str} (h : asc s) : PyData.strOk s = true := by
  unfold PyData.strOk
  rw [Array.all_eq_true']
  intro c hc
  have := h c (Array.mem_toList_iff.mpr hc)
  exact decide_eq_true (by omega)
theorem shAll_sS (l : List Str) : PyData.shownAll (D.pyAll (sS l)) = l.map reprText := by
  induction l with
  | nil => rfl
  | cons s l ih => show PyData.shown (.str s) :: PyData.shownAll (D.pyAll (sS l)) = _; rw [ih, PyData.shown_str]; rfl
theorem shAll_dPs (l : List Lk) : PyData.shownAll (D.pyAll (dPs l)) = l.map fun p => tupleText [reprText p.1, reprText p.2] := by
  induction l with
  | nil => rfl
  | cons p l ih =>
    show PyData.shown (.tuple [.str p.1, .str p.2]) :: PyData.shownAll (D.pyAll (dPs l)) = _
    rw [ih]
    simp only [PyData.shown, PyData.shownAll, List.map_cons]
theorem repr_len {s : Str} (h : nameOk s = true) : (reprText s).length ≤ 82 := by
  have := StrLaws.reprText_len s fun c hc => by
    have := (nameOk_iff.mp h).2.2 c hc
    have all : ∀ c ∈ letS.cps.toList, c < 16 ^ 8 := by decide +kernel
    exact all c this
  have := name_len h
  omega
theorem sum_le {α : Type} {f : α → Nat} {b : Nat} : ∀ {l : List α}, (∀ a ∈ l, f a ≤ b) → (l.map f).sum ≤ b * l.length
  | [], _ => by simp
  | a :: l, h => by
    have h1 := h a List.mem_cons_self
    have h2 := sum_le (l := l) (f := f) fun x hx => h x (List.mem_cons_of_mem _ hx)
    rw [List.map_cons, List.sum_cons, List.length_cons, Nat.mul_add]
    omega
theorem sh_sS {l : List Str} (h : ∀ s ∈ l, nameOk s = true) (hl : l.length ≤ 100) : (shL (sS l)).length ≤ 9000 ∧ asc (shL (sS l)) := by
  have e : shL (sS l) = listText (l.map reprText) := by
    show listText (PyData.shownAll (D.pyAll (sS l))) = _
    rw [shAll_sS]
  rw [e]
  refine ⟨?_, asc_list fun t ht => ?_⟩
  · have h1 := listText_len_le (l.map reprText)
    rw [List.map_map, List.length_map] at h1
    have h2 := sum_le (f := (fun s : Str => s.length) ∘ reprText) (b := 82) (l := l) fun s hs => repr_len (h s hs)
    omega
  · obtain ⟨s, hs, rfl⟩ := List.mem_map.mp ht
    exact asc_repr (h s hs)
theorem sh_dPs {l : List Lk} (h : ∀ p ∈ l, nameOk p.1 = true ∧ nameOk p.2 = true) (hl : l.length ≤ 200) : (shL (dPs l)).length ≤ 40000 ∧ asc (shL (dPs l)) := by
  have e : shL (dPs l) = listText (l.map fun p => tupleText [reprText p.1, reprText p.2]) := by
    show listText (PyData.shownAll (D.pyAll (dPs l))) = _
    rw [shAll_dPs]
  rw [e]
  refine ⟨?_, asc_list fun t ht => ?_⟩
  · have h1 := listText_len_le (l.map fun p => tupleText [reprText p.1, reprText p.2])
    rw [List.map_map, List.length_map] at h1
    have h2 := sum_le (f := (fun s : Str => s.length) ∘ fun p : Lk => tupleText [reprText p.1, reprText p.2]) (b := 171) (l := l) fun p hp => by
      have h3 := tupleText_len_le [reprText p.1, reprText p.2]
      have a := repr_len (h p hp).1
      have b := repr_len (h p hp).2
      simp only [List.map_cons, List.map_nil, List.sum_cons, List.sum_nil, List.length_cons, List.length_nil] at h3
      show (tupleText [reprText p.1, reprText p.2]).length ≤ 171
      omega
    omega
  · obtain ⟨p, hp, rfl⟩ := List.mem_map.mp ht
    exact asc_tuple fun t ht => by
      rcases List.mem_cons.mp ht with e | ht
      · rw [e]; exact asc_repr (h p hp).1
      · rw [List.mem_singleton.mp ht]; exact asc_repr (h p hp).2
/-! ### models with bounds -/
structure MdB (sp : List Str) (ps : List Lk) : Prop extends Mdl sp ps where
  b1 : sp.length ≤ 40
  b2 : ps.length ≤ 110
theorem MdB.ok {sp : List Str} {ps : List Lk} (m : MdB sp ps) : (∀ s ∈ sp, nameOk s = true) ∧ ∀ p ∈ ps, nameOk p.1 = true ∧ nameOk p.2 = true :=
  ⟨fun s hs => (m.sk s hs).1, fun p hp => ⟨(m.sk _ (m.pk p hp).2.2.1).1, (m.sk _ (m.pk p hp).2.2.2).1⟩⟩
theorem MdB.prs {sp : List Str} {ps : List Lk} (m : MdB sp ps) : Prs sp ps := ⟨by have := m.b1; omega, m.sn, m.ok.1, by have := m.b2; omega, m.pn, m.pk⟩
theorem MdB.rpS {sp : List Str} {ps : List Lk} (m : MdB sp ps) : Rp (sS sp) := Rp.sS (fun s hs => ⟨name_strOk (m.ok.1 s hs), by have := name_len (m.ok.1 s hs); omega⟩) (by have := m.b1; omega)
theorem MdB.rpP {sp : List Str} {ps : List Lk} (m : MdB sp ps) : Rp (dPs ps) := Rp.dPs (fun p hp => ⟨⟨name_strOk (m.ok.2 p hp).1, by have := name_len (m.ok.2 p hp).1; omega⟩, name_strOk (m.ok.2 p hp).2, by have := name_len (m.ok.2 p hp).2; omega⟩) (by have := m.b2; omega)
theorem MdB.rpN {sp : List Str} {ps : List Lk} (m : MdB sp ps) : RpN sp ps := ⟨m.rpS, m.rpP, by have := (sh_sS m.ok.1 (by have := m.b1; omega)).1; omega, by have := (sh_dPs m.ok.2 (by have := m.b2; omega)).1; omega⟩
theorem MdB.ascN {sp : List Str} {ps : List Lk} (m : MdB sp ps) : asc (netS sp ps) ∧ (netS sp ps).length ≤ 60000 := by
  obtain ⟨a1, a2⟩ := sh_sS m.ok.1 (by have := m.b1; omega)
  obtain ⟨b1, b2⟩ := sh_dPs m.ok.2 (by have := m.b2; omega)
  unfold netS
  refine ⟨asc_app (asc_app (asc_app (asc_app (by intro c hc; revert c; decide +kernel) a2) (by intro c hc; revert c; decide +kernel)) b2) (by intro c hc; revert c; decide +kernel), ?_⟩
  rw [app_len, app_len, app_len, app_len]
  show 4 + _ + 2 + _ + 1 ≤ _
  omega
section
variable {P : Program} {w : World} {K : PySem.W.Frag} {mg : Str → Option Value} {base : Heap} {C : Addr}
abbrev sShown : Stmt := top 48
abbrev nShown : List Str := ["_law_model"]
theorem scShown : FnScope nShown ["_law_model"] (defScope sShown) := ⟨rfl, rfl, rfl, by decide +kernel, rfl, by decide +kernel, by decide +kernel⟩
def preShown : List D → Prop := fun ds => ∃ sp ps, ds = [modD sp ps] ∧ MdB sp ps
def postShown : List D → D → Prop := fun ds d => ∀ sp ps, ds = [modD sp ps] → d = .str (netS sp ps)
theorem gcl_shown (F : Fd K mg "_law_shown" ["_law_model"] sShown) (M : Mb mg) : GCl P w K mg base 1 "_law_shown" ["_law_model"] (SpD K C preShown postShown) := F.gcl fun f fd F => by
  refine gfnD F scShown (fun ds ⟨_, _, e, _⟩ => by rw [e]; rfl) fun cdv A outer s H E hr hg => ?_
  have hu64 := hu65 hr
  have hu := hu_of hr
  refine ⟨_, (pss_one (ps_ret (pe_op op_add_str (pe_op op_add_str (pe_op op_add_str (pe_op op_add_str pe_str (pe_callB (call_reprD hg hu64) (by rfl) M.repr (by decide +kernel) (pa_cons (pe_dget hu (pv 0) pe_str (fun _ _ => rfl)) pa_nil))) pe_str) (pe_callB (call_reprD hg hu64) (by rfl) M.repr (by decide +kernel) (pa_cons (pe_dget hu (pv 0) pe_str (fun _ _ => rfl)) pa_nil))) pe_str))), fun pot old M H ds hp => ?_⟩
  obtain ⟨sp, ps, rfl, m⟩ := hp
  obtain ⟨a1, a2⟩ := sh_sS m.ok.1 (by have := m.b1; omega)
  obtain ⟨b1, b2⟩ := sh_dPs m.ok.2 (by have := m.b2; omega)
  dsimp only [cxOf, Cx.nox, Cx.wish]
  show WS _ _ [.da (modD sp ps)] _
  refine ws_ret (we_op (we_op (we_op (we_op (we_str (we_cb (wa_cons (we_dget (we_var rfl ⟨_, rfl, we_str ⟨_, _, rfl, mod_spots sp ps, wa_nil (vc_reprL m.rpS (v2_addL ?_ ?_))⟩⟩)))))))))
  · show 4 + _ ≤ _; omega
  refine we_str (v2_addL ?_ ?_)
  · rw [app_len]; show 4 + _ + 2 ≤ _; omega
  refine we_cb (wa_cons (we_dget (we_var rfl ⟨_, rfl, we_str ⟨_, _, rfl, mod_pairs sp ps, wa_nil (vc_reprL m.rpP (v2_addL ?_ ?_))⟩⟩)))
  · rw [app_len, app_len]; show 4 + _ + 2 + _ ≤ _; omega
  refine we_str (v2_addL ?_ ?_)
  · rw [app_len, app_len, app_len]; show 4 + _ + 2 + _ + 1 ≤ _; omega
  intro sp' ps' e
  obtain ⟨e1, e2⟩ := modD_inj (List.cons.inj e).1
  subst e1 e2
  rfl
end
end K11


/-! K11AB: _law_is. -/
namespace K11
open PySem PySem.Spec PyProof.Rows L2
local macro_rules | `(tactic| walk_at "w") => `(tactic| (first
  | (with_reducible refine ws_seq ?_)
  | (with_reducible refine ws_ret ?_)
  | (with_reducible refine ws_if ?_)
  | (with_reducible refine ws_asg ?_)
  | (with_reducible refine ws_break ?_)
  | (with_reducible refine ws_drop ?_)
  | (with_reducible refine we_var (by with_unfolding_all rfl) ?_)
  | (with_reducible refine we_int ?_)
  | (with_reducible refine we_str ?_)
  | (with_reducible refine we_bl ?_)
  | (with_reducible refine we_non ?_)
  | (with_reducible refine we_ty ?_)
  | (with_reducible refine we_cls ?_)
  | (with_reducible refine wa_cons ?_)
  | (with_reducible refine wa_nil ?_)
  | (with_reducible refine we_cb ?_)
  | (with_reducible refine vc_lenL ?_)
  | (with_reducible refine vc_lenT ?_)
  | (with_reducible refine v2_B0 ?_)
  | (with_reducible refine v2_I0 ?_)
  | (with_reducible refine we_call ?_)
  | (with_reducible refine we_op ?_)
  | (with_reducible refine we_tup ?_)
  | (with_reducible refine we_if ?_)
  | (with_reducible refine we_chain ?_)
  | (with_reducible refine wt_test ?_)
  | (with_reducible refine wt_B ?_)
  | (with_reducible refine wt_not ?_)
  | (with_reducible refine wt_or ?_)
  | (with_reducible refine wt_and ?_)))


/-- a property's promise -/
structure Pp (P : Program) (w : World) (K : PySem.W.Frag) (mg : Str → Option Value) (base : Heap) (C : Addr) (k : Nat) (m : Str) (ps : List Str) (sp : Sp) : Prop where
  ex : ∃ (p g : Addr) (fd : FuncData), PropOf K C m p g ∧ FnOk P w K mg base CX0 k g fd ps sp ∧ Binds K fd ps []
theorem pprop {X : Cx} {C : Addr} {k : Nat} {m : Str} {ps : List Str} {sp : Sp} {pos : Pos} {e : Expr} {ta : TE} (c : Pp X.prog X.w X.K X.mg X.base C k m ps sp) (cl : Cls X.K C) (hr : Room (k + 1) X.A) (he : PE X e ta)
    (hab : attributeBase e m X.env (eval e X.env) = eval e X.env := by rfl) : PE X (.Attribute e m pos) (tProp C sp [] E0 ta) := by
  obtain ⟨p, g, fd, h1, h2, h3⟩ := c.ex
  exact pe_prop he cl h1 h2 hr h3 .nil pass0 hab
theorem lsD_ok {l : List (List Str)} {n : Nat} (h : ∀ x ∈ l, ∀ s ∈ x, PyData.strOk s = true) : D.okAll (n + 1) (lsD l) = true := ok_map fun x hx => (show D.okAll n (sS x) = true from ok_sS (h x hx))
theorem lsD_sm : ∀ l : List (List Str), D.smAll (lsD l) = true
  | [] => rfl
  | x :: l => by
    show (D.smAll (sS x) && D.smAll (lsD l)) = true
    rw [lsD_sm l, Bool.and_true]
    induction x with
    | nil => rfl
    | cons s x ih => show (true && D.smAll (sS x)) = true; rw [ih]; rfl
theorem lsD_nob : ∀ l : List (List Str), D.nobAll (lsD l) = true
  | [] => rfl
  | x :: l => by
    show (D.nobAll (sS x) && D.nobAll (lsD l)) = true
    rw [nob_sS x, lsD_nob l]; rfl
theorem wt_sS {l : List Str} (h : ∀ s ∈ l, s.length ≤ 8) : D.wtAll (sS l) ≤ 9 * l.length := by
  induction l with
  | nil => exact Nat.le_refl _
  | cons s l ih =>
    have h1 := h s List.mem_cons_self
    have h2 := ih fun x hx => h x (List.mem_cons_of_mem _ hx)
    show s.length + 1 + D.wtAll (sS l) ≤ 9 * (l.length + 1)
    omega
theorem wt_lsD {l : List (List Str)} {b : Nat} (h : ∀ x ∈ l, (∀ s ∈ x, s.length ≤ 8) ∧ x.length ≤ b) : D.wtAll (lsD l) ≤ (9 * b + 1) * l.length := by
  induction l with
  | nil => exact Nat.le_refl _
  | cons x l ih =>
    obtain ⟨h0, h1⟩ := h x List.mem_cons_self
    have h2 := ih fun y hy => h y (List.mem_cons_of_mem _ hy)
    have h3 := wt_sS h0
    show D.wtAll (sS x) + 1 + D.wtAll (lsD l) ≤ (9 * b + 1) * (l.length + 1)
    rw [Nat.mul_add, Nat.mul_one]
    omega
theorem wt_dPs {l : List Lk} (h : ∀ p ∈ l, p.1.length ≤ 8 ∧ p.2.length ≤ 8) : D.wtAll (dPs l) ≤ 19 * l.length := by
  induction l with
  | nil => exact Nat.le_refl _
  | cons p l ih =>
    have h1 := h p List.mem_cons_self
    have h2 := ih fun x hx => h x (List.mem_cons_of_mem _ hx)
    show (p.1.length + 1 + (p.2.length + 1 + 0)) + 1 + D.wtAll (dPs l) ≤ 19 * (l.length + 1)
    omega
noncomputable def toldD (sp : List Str) (ps : List Lk) : List D := [.lst (sS sp), .lst (dPs ps), .int (ps.length : Nat), .int (sp.length : Nat), .lst (lsD (pcsL sp ps)), .str (netS sp ps)]
theorem pcsL_ok {sp : List Str} {ps : List Lk} (m : MdB sp ps) : (pcsL sp ps).length ≤ 40 ∧ ∀ x ∈ pcsL sp ps, x.length ≤ 40 ∧ ∀ s ∈ x, nameOk s = true := by
  refine ⟨?_, fun x hx => ?_⟩
  · unfold pcsL
    rw [List.length_map]
    exact Nat.le_trans (List.length_filter_le _ _) m.b1
  · unfold pcsL at hx
    obtain ⟨s, hs, rfl⟩ := List.mem_map.mp hx
    exact ⟨Nat.le_trans pcS_len m.b1, fun y hy => m.ok.1 y (pcS_mem.mp hy).1⟩
theorem rp_told {sp : List Str} {ps : List Lk} (m : MdB sp ps) : Rp (toldD sp ps) := by
  obtain ⟨o1, o2⟩ := m.ok
  obtain ⟨c1, c2⟩ := pcsL_ok m
  obtain ⟨n1, n2⟩ := m.ascN
  have b1 := m.b1
  have b2 := m.b2
  refine ⟨?_, ?_, ?_⟩
  · show (D.okAll 8 (sS sp) && (D.okAll 8 (dPs ps) && (true && (true && (D.okAll 8 (lsD (pcsL sp ps)) && (D.ok 9 (.str (netS sp ps)) && true)))))) = true
    rw [ok_sS (n := 8) fun s hs => name_strOk (o1 s hs), ok_dPs (n := 7) fun p hp => ⟨name_strOk (o2 p hp).1, name_strOk (o2 p hp).2⟩, lsD_ok (n := 7) fun x hx s hs => name_strOk ((c2 x hx).2 s hs), ok_str 9 (asc_strOk n1)]
    rfl
  · show (D.smAll (sS sp) && (D.smAll (dPs ps) && (D.sm (.int (ps.length : Nat)) && (D.sm (.int (sp.length : Nat)) && (D.smAll (lsD (pcsL sp ps)) && (true && true)))))) = true
    rw [m.rpS.sm, m.rpP.sm, lsD_sm]
    simp [D.sm]
    omega
  · show D.wtAll (sS sp) + 1 + (D.wtAll (dPs ps) + 1 + (8 + 1 + (8 + 1 + (D.wtAll (lsD (pcsL sp ps)) + 1 + ((netS sp ps).length + 1 + 0))))) ≤ 1000000
    have w1 := wt_sS (l := sp) fun s hs => name_len (o1 s hs)
    have w2 := wt_dPs (l := ps) fun p hp => ⟨name_len (o2 p hp).1, name_len (o2 p hp).2⟩
    have w3 := wt_lsD (l := pcsL sp ps) (b := 40) fun x hx => ⟨fun s hs => name_len ((c2 x hx).2 s hs), (c2 x hx).1⟩
    omega
section
variable {P : Program} {w : World} {K : PySem.W.Frag} {mg : Str → Option Value} {base : Heap} {C : Addr}
abbrev sIs : Stmt := top 49
abbrev nIs : List Str := ["_law_made", "_law_model", "_law_told", "_law_spots", "_law_pairs", "_law_spot"]
theorem scIs : FnScope nIs ["_law_made", "_law_model"] (defScope sIs) := ⟨rfl, rfl, rfl, by decide +kernel, rfl, by decide +kernel, by decide +kernel⟩
def mdN (sp : List Str) (ps : List Lk) : D := .net sp ps (nearOf sp ps)
def preIs : List D → Prop := fun ds => ∃ sp ps, ds = [mdN sp ps, modD sp ps] ∧ MdB sp ps
theorem gcl_is (F : Fd K mg "_law_is" ["_law_made", "_law_model"] sIs) (M : Mb mg) (T : NetT K C) (m_nodes : Mt P w K mg base C 1 "nodes" ["self"] (SpO K C preSelf postNodes)) (m_links : Mt P w K mg base C 1 "links" ["self"] (SpO K C preSelf postLinks))
    (p_size : Pp P w K mg base C 1 "size" ["self"] (SpD K C preSelf postSize)) (m_len : Mt P w K mg base C 1 "__len__" ["self"] (SpD K C preSelf postLen)) (m_pieces : Mt P w K mg base C 2 "pieces" ["self"] (SpN K C preSelfP postPcs)) (g_repr : GMt P w K mg base C 1 "__repr__" ["self"] (SpD K C preRepr postRepr))
    (c_pieces : Cl P w K mg base 3 "_law_pieces" ["_law_spots", "_law_pairs"] (SpO K C prePieces postPieces)) (g_shown : GCl P w K mg base 1 "_law_shown" ["_law_model"] (SpD K C preShown postShown))
    (m_neighbours : Mt P w K mg base C 6 "neighbours" ["self", "node"] (SpO K C preNode postNb)) (c_near : Cl P w K mg base 1 "_law_near" ["_law_pairs", "_law_spot"] (SpO K C preNear postNear))
    (m_piece_of : Mt P w K mg base C 6 "piece_of" ["self", "node"] (SpO K C prePieceOf postPieceOf)) (c_piece : Cl P w K mg base 2 "_law_piece" ["_law_pairs", "_law_spot"] (SpO K C prePiece postPiece)) :
    GCl P w K mg base 7 "_law_is" ["_law_made", "_law_model"] (SpD K C preIs fun _ d => d = .bl true) := F.gcl fun f fd F => by
  refine gfnD F scIs (fun ds ⟨_, _, e, _⟩ => by rw [e]; rfl) fun cdv A outer s H E hr hg => ?_
  have hu64 := hu65 hr
  have hu := hu_of hr
  refine ⟨_, (pss_cons (ps_asg (pe_tup (pa_cons (pe_dget hu (pv 1) pe_str (fun _ _ => rfl)) (pa_cons (pe_dget hu (pv 1) pe_str (fun _ _ => rfl)) pa_nil))) (pg_tup (by rfl) (pgs_cons (pg_name (i := 3) scIs.nd rfl (by first | exact Or.inl rfl | exact Or.inr rfl)) (pgs_cons (pg_name (i := 4) scIs.nd rfl (by first | exact Or.inl rfl | exact Or.inr rfl)) pgs_nil))))
    (pss_cons (ps_set (i := 2) scIs.nd rfl (by first | exact Or.inl rfl | exact Or.inr rfl) (pe_lst (pa_cons (pmt0 m_nodes T.cl (hr.mono (by decide)) (pv 0)) (pa_cons (pmt0 m_links T.cl (hr.mono (by decide)) (pv 0)) (pa_cons (pprop p_size T.cl (hr.mono (by decide)) (pv 0)) (pa_cons (pe_callB (call_lenN m_len (hr.mono (by decide))) (by rfl) M.len PySem.boot_len (pa_cons (pv 0) pa_nil)) (pa_cons (pmt0 m_pieces T.cl (hr.mono (by decide)) (pv 0)) (pa_cons (pe_callB (call_reprN g_repr (hr.mono (by decide)) hg) (by rfl) M.repr (by decide +kernel) (pa_cons (pv 0) pa_nil)) pa_nil))))))))
    (pss_cons (ps_if (pt_cmpR op_ne (pe_callB (call_reprD hg hu64) (by rfl) M.repr (by decide +kernel) (pa_cons (pv 2) pa_nil)) (pe_callB (call_reprD hg hu64) (by rfl) M.repr (by decide +kernel) (pa_cons (pe_lst (pa_cons (pv 3) (pa_cons (pv 4) (pa_cons (pe_callB call_len2 (by rfl) M.len PySem.boot_len (pa_cons (pv 4) pa_nil)) (pa_cons (pe_callB call_len2 (by rfl) M.len PySem.boot_len (pa_cons (pv 3) pa_nil)) (pa_cons (pcl c_pieces (hr.mono (by decide)) (pa_cons (pv 3) (pa_cons (pv 4) pa_nil))) (pa_cons (pgcl g_shown (hr.mono (by decide)) hg (pa_cons (pv 1) pa_nil)) pa_nil))))))) pa_nil)) (nomark _)) (pss_one (ps_ret pe_bl)) pss_nil)
    (pss_cons (ps_if (pt_cmpR (op_neD hr.units) (pe_lc (own := [("_law_spot", 5)]) (by rfl) scIs.nd (pi_list (pv 3)) (blkOk_by (N := nIs) (sc := defScope sIs) (by decide +kernel)) (fun _ _ _ _ _ => (pg_name (i := 5) scIs.nd rfl (by first | exact Or.inl rfl | exact Or.inr rfl))) (fun _ _ _ _ _ => pts_nil) (fun _ _ _ _ _ => (by exact pmt m_neighbours T.cl (hr.mono (by decide)) (pv 0) (pa_cons (pv 5) pa_nil)))) (pe_lc (own := [("_law_spot", 5)]) (by rfl) scIs.nd (pi_list (pv 3)) (blkOk_by (N := nIs) (sc := defScope sIs) (by decide +kernel)) (fun _ _ _ _ _ => (pg_name (i := 5) scIs.nd rfl (by first | exact Or.inl rfl | exact Or.inr rfl))) (fun _ _ _ _ _ => pts_nil) (fun _ _ _ _ _ => (by exact pcl c_near (hr.mono (by decide)) (pa_cons (pv 4) (pa_cons (pv 5) pa_nil))))) (nomark _)) (pss_one (ps_ret pe_bl)) pss_nil)
    (pss_one (ps_ret (pe_cmpR (op_eqD hr.units) (pe_lc (own := [("_law_spot", 5)]) (by rfl) scIs.nd (pi_list (pv 3)) (blkOk_by (N := nIs) (sc := defScope sIs) (by decide +kernel)) (fun _ _ _ _ _ => (pg_name (i := 5) scIs.nd rfl (by first | exact Or.inl rfl | exact Or.inr rfl))) (fun _ _ _ _ _ => pts_nil) (fun _ _ _ _ _ => (by exact pmt m_piece_of T.cl (hr.mono (by decide)) (pv 0) (pa_cons (pv 5) pa_nil)))) (pe_lc (own := [("_law_spot", 5)]) (by rfl) scIs.nd (pi_list (pv 3)) (blkOk_by (N := nIs) (sc := defScope sIs) (by decide +kernel)) (fun _ _ _ _ _ => (pg_name (i := 5) scIs.nd rfl (by first | exact Or.inl rfl | exact Or.inr rfl))) (fun _ _ _ _ _ => pts_nil) (fun _ _ _ _ _ => (by exact pcl c_piece (hr.mono (by decide)) (pa_cons (pv 4) (pa_cons (pv 5) pa_nil))))) (nomark _)))))))), fun pot old M H ds hp => ?_⟩
  obtain ⟨sp, ps, rfl, m⟩ := hp
  have W := m.prs
  have b1 := m.b1
  have b2 := m.b2
  obtain ⟨o1, o2⟩ := m.ok
  dsimp only [cxOf, Cx.nox, Cx.wish]
  show WS _ _ [.da (mdN sp ps), .da (modD sp ps), .no, .no, .no, .no] _
  refine ws_seq (ws_asg (we_tup (wa_cons (we_dget (we_var rfl ⟨_, rfl, we_str ⟨_, _, rfl, mod_spots sp ps, wa_cons (we_dget (we_var rfl ⟨_, rfl, we_str ⟨_, _, rfl, mod_pairs sp ps, wa_nil ⟨by show (2 : Nat) ≤ 1000; decide, wg_tup2 (wg_name (wg_name ?_))⟩⟩⟩))⟩⟩)))))
  show WS _ _ [.da (mdN sp ps), .da (modD sp ps), .no, .da (.lst (sS sp)), .da (.lst (dPs ps)), .no] _
  -- told
  refine ws_seq (ws_asg (WO.we (wo_lst (wa_cons (WO.we (wo_meth (by decide +kernel) (we_var rfl ⟨_, _, _, rfl, wa_nil ⟨⟨_, _, _, rfl⟩, fun l hl => ?_⟩⟩)))))))
  obtain rfl := hl _ _ _ rfl
  refine wa_cons (WO.we (wo_meth (by decide +kernel) (we_var rfl ⟨_, _, _, rfl, wa_nil ⟨⟨_, _, _, rfl⟩, fun l hl => ?_⟩⟩)))
  obtain rfl := hl _ _ _ rfl
  refine wa_cons (we_prop (we_var rfl ⟨_, _, _, rfl, ⟨_, _, _, rfl⟩, fun d hd => ?_⟩))
  obtain rfl := hd _ _ _ rfl
  refine wa_cons (we_lenN (we_var rfl ⟨_, _, _, rfl, ⟨_, _, _, rfl⟩, fun d hd => ⟨_, hd _ _ _ rfl, by omega, by omega, ?_⟩⟩))
  refine wa_cons (WO.we (wo_methN (by decide +kernel) (we_var rfl ⟨_, _, _, pcsL sp ps, rfl, ⟨_, _, rfl, W, m.so⟩, fun l hl => hl _ _ _ rfl, ?_⟩)))
  refine wa_cons (we_reprN (we_var rfl ⟨_, _, _, rfl, ⟨_, _, _, rfl, m.rpN⟩, fun d hd => ⟨_, hd _ _ _ rfl, wa_nil ⟨by show (6 : Nat) ≤ 1000; decide, wg_name ?_⟩⟩⟩))
  show WS _ _ [.da (mdN sp ps), .da (modD sp ps), .da (.lst (toldD sp ps)), .da (.lst (sS sp)), .da (.lst (dPs ps)), .no] _
  -- the first test
  refine ws_seq (ws_if (wt_test (we_op (we_cb (wa_cons (we_var rfl (wa_nil (vc_reprL (rp_told m) (we_cb (wa_cons (WO.we (wo_lst ?_))))))))))))
  repeat (walk_at "w")
  rw [sS_len, dPs_len]
  refine WO.we (wo_call ?_)
  repeat (walk_at "w")
  refine ⟨⟨sp, ps, rfl, W, m.so⟩, fun l hl => ?_⟩
  obtain rfl := hl _ _ rfl
  repeat (walk_at "w")
  refine ⟨⟨sp, ps, rfl, m⟩, fun d hd => ?_⟩
  obtain rfl := hd _ _ rfl
  repeat (walk_at "w")
  refine ⟨by show (6 : Nat) ≤ 1000; decide, wa_nil (vc_reprL (l := toldD sp ps) (rp_told m) (v2_neSS ⟨_, rfl, fun h => ?_, fun _ => ws_next ?_⟩))⟩
  · simp at h
  -- neighbours
  have step : ∀ (g : Str → List Str) (i : Nat) (x : Str), sp[i]? = some x → lsD ((sp.take (i + 1)).map g) = lsD ((sp.take i).map g) ++ [.lst (sS (g x))] := fun g i x hx => by
    rw [List.take_add_one, hx, List.map_append]
    simp [lsD]
  have keyn : ∀ x ∈ sp, x ∈ (nearOf sp ps).map (·.1) := fun x hx => by rw [near_keys]; exact hx
  have nbx : ∀ x ∈ sp, nbOf (nearOf sp ps) x = srtS (raw ps x) := fun x hx => by unfold nbOf; rw [nearOf_look hx]; rfl
  have nbl : ∀ x ∈ sp, ∀ s ∈ srtS (raw ps x), nameOk s = true := fun x hx s hs => o1 s (W.nb ((srtS_perm _).mem_iff.mp hs)).2
  refine ws_seq (ws_if (wt_test (we_op (WO.we (wo_lc (go_name (by simp)) (wi_list (we_var rfl ⟨_, rfl, by rw [sS_len]; omega, fun i acc => acc = lsD ((sp.take i).map fun x => srtS (raw ps x)), rfl, ?_, ?_⟩)))))))
  · rintro i d acc hd rfl
    obtain ⟨x, rfl, hx⟩ := get_sS hd
    have xs := List.mem_of_getElem? hx
    refine wg_name (wt_yes ⟨fun _ => ?_, fun h => nomatch h⟩)
    show WE _ _ [.da (mdN sp ps), .da (modD sp ps), .da (.lst (toldD sp ps)), .da (.lst (sS sp)), .da (.lst (dPs ps)), .da (.str x)] _
    refine WO.we (wo_meth (by decide +kernel) (we_var rfl ⟨_, _, _, rfl, wa_cons (we_var rfl (wa_nil ⟨⟨_, _, _, x, rfl, keyn x xs, by have := name_len (o1 x xs); omega⟩, fun l hl => ?_⟩))⟩))
    obtain rfl := hl _ _ _ _ rfl
    rw [nbx x xs]
    exact (step (fun x => srtS (raw ps x)) i x hx).symm
  rintro acc rfl
  rw [sS_len, List.take_length]
  refine WO.we (wo_lc (go_name (by simp)) (wi_list (we_var rfl ⟨_, rfl, by rw [sS_len]; omega, fun i acc => acc = lsD ((sp.take i).map fun x => srtS (raw ps x)), rfl, ?_, ?_⟩)))
  · rintro i d acc hd rfl
    obtain ⟨x, rfl, hx⟩ := get_sS hd
    refine wg_name (wt_yes ⟨fun _ => ?_, fun h => nomatch h⟩)
    show WE _ _ [.da (mdN sp ps), .da (modD sp ps), .da (.lst (toldD sp ps)), .da (.lst (sS sp)), .da (.lst (dPs ps)), .da (.str x)] _
    refine WO.we (wo_call (wa_cons (we_var rfl (wa_cons (we_var rfl (wa_nil ⟨⟨_, x, rfl, by omega, fun p hp => (m.pk p hp).2.1⟩, fun l hl => ?_⟩))))))
    obtain rfl := hl _ _ rfl
    exact (step (fun x => srtS (raw ps x)) i x hx).symm
  rintro acc rfl
  rw [sS_len, List.take_length]
  have okN : D.okAll 9 (lsD (sp.map fun x => srtS (raw ps x))) = true := lsD_ok (n := 8) fun x hx s hs => by
    obtain ⟨y, hy, rfl⟩ := List.mem_map.mp hx
    exact name_strOk (nbl y hy s hs)
  refine v2_neD okN okN (lsD_nob _) (lsD_nob _) fun b hb => ⟨_, rfl, fun h => ?_, fun _ => ws_next ?_⟩
  · rw [hb.mpr rfl] at h; cases h
  -- pieces
  refine ws_ret (we_op (WO.we (wo_lc (go_name (by simp)) (wi_list (we_var rfl ⟨_, rfl, by rw [sS_len]; omega, fun i acc => acc = lsD ((sp.take i).map fun x => pcS sp (raw ps) x), rfl, ?_, ?_⟩)))))
  · rintro i d acc hd rfl
    obtain ⟨x, rfl, hx⟩ := get_sS hd
    have xs := List.mem_of_getElem? hx
    refine wg_name (wt_yes ⟨fun _ => ?_, fun h => nomatch h⟩)
    show WE _ _ [.da (mdN sp ps), .da (modD sp ps), .da (.lst (toldD sp ps)), .da (.lst (sS sp)), .da (.lst (dPs ps)), .da (.str x)] _
    refine WO.we (wo_meth (by decide +kernel) (we_var rfl ⟨_, _, _, rfl, wa_cons (we_var rfl (wa_nil ⟨⟨_, _, _, x, rfl, keyn x xs, by have := name_len (o1 x xs); omega, grf_near W⟩, fun l hl => ?_⟩))⟩))
    obtain rfl := piece_eq W xs (hl _ _ _ _ rfl)
    exact (step (fun x => pcS sp (raw ps) x) i x hx).symm
  rintro acc rfl
  rw [sS_len, List.take_length]
  refine WO.we (wo_lc (go_name (by simp)) (wi_list (we_var rfl ⟨_, rfl, by rw [sS_len]; omega, fun i acc => acc = lsD ((sp.take i).map fun x => pcS sp (raw ps) x), rfl, ?_, ?_⟩)))
  · rintro i d acc hd rfl
    obtain ⟨x, rfl, hx⟩ := get_sS hd
    have xs := List.mem_of_getElem? hx
    refine wg_name (wt_yes ⟨fun _ => ?_, fun h => nomatch h⟩)
    show WE _ _ [.da (mdN sp ps), .da (modD sp ps), .da (.lst (toldD sp ps)), .da (.lst (sS sp)), .da (.lst (dPs ps)), .da (.str x)] _
    refine WO.we (wo_call (wa_cons (we_var rfl (wa_cons (we_var rfl (wa_nil ⟨⟨_, x, sp, rfl, W, xs⟩, fun l hl => ?_⟩))))))
    obtain rfl := hl _ _ rfl sp W xs
    exact (step (fun x => pcS sp (raw ps) x) i x hx).symm
  rintro acc rfl
  rw [sS_len, List.take_length]
  have okP : D.okAll 9 (lsD (sp.map fun x => pcS sp (raw ps) x)) = true := lsD_ok (n := 8) fun x hx s hs => by
    obtain ⟨y, hy, rfl⟩ := List.mem_map.mp hx
    exact name_strOk (o1 s (pcS_mem.mp hs).1)
  refine v2_eqD okP okP (lsD_nob _) (lsD_nob _) fun b hb => ?_
  show D.bl b = .bl true
  rw [hb.mpr rfl]
end
end K11


/-! K11AC: _law_in_right. -/
namespace K11
open PySem PySem.Spec PyProof.Rows L2
local macro_rules | `(tactic| walk_at "w") => `(tactic| (first
  | (with_reducible refine ws_seq ?_)
  | (with_reducible refine ws_ret ?_)
  | (with_reducible refine ws_if ?_)
  | (with_reducible refine ws_asg ?_)
  | (with_reducible refine ws_break ?_)
  | (with_reducible refine ws_drop ?_)
  | (with_reducible refine we_var (by with_unfolding_all rfl) ?_)
  | (with_reducible refine we_int ?_)
  | (with_reducible refine we_str ?_)
  | (with_reducible refine we_bl ?_)
  | (with_reducible refine we_non ?_)
  | (with_reducible refine we_ty ?_)
  | (with_reducible refine we_cls ?_)
  | (with_reducible refine wa_cons ?_)
  | (with_reducible refine wa_nil ?_)
  | (with_reducible refine we_cb ?_)
  | (with_reducible refine vc_lenL ?_)
  | (with_reducible refine vc_lenT ?_)
  | (with_reducible refine v2_B0 ?_)
  | (with_reducible refine v2_I0 ?_)
  | (with_reducible refine we_call ?_)
  | (with_reducible refine we_op ?_)
  | (with_reducible refine we_tup ?_)
  | (with_reducible refine we_if ?_)
  | (with_reducible refine we_chain ?_)
  | (with_reducible refine wt_test ?_)
  | (with_reducible refine wt_B ?_)
  | (with_reducible refine wt_not ?_)
  | (with_reducible refine wt_or ?_)
  | (with_reducible refine wt_and ?_)))


theorem has_iff {sp : List Str} {ps : List Lk} (m : MdB sp ps) (a b : Str) : hasD (nearOf sp ps) (.tup [.str a, .str b]) = true ↔ ordP (a, b) ∈ ps := by
  have W := m.prs
  show (linkD (.tup [.str a, .str b]) && decide (b ∈ nbOf (nearOf sp ps) a)) = true ↔ _
  rw [Bool.and_eq_true, decide_eq_true_eq]
  constructor
  · rintro ⟨_, h2⟩
    unfold nbOf at h2
    by_cases ha : a ∈ sp
    · rw [nearOf_look ha] at h2
      rcases raw_mem.mp ((srtS_perm _).mem_iff.mp h2) with z | ⟨z, _⟩
      · rw [(m.pk _ z).1]; exact z
      · rw [← ordP_flip, (m.pk _ z).1]; exact z
    · rw [nearOf_none ha] at h2; cases h2
  · intro h
    obtain ⟨_, ne, k1, k2⟩ := m.pk _ h
    have key : (a ≠ b ∧ a ∈ sp ∧ b ∈ sp) ∧ b ∈ raw ps a := by
      rcases ordP_ends (a, b) with e | e <;> rw [e] at h ne k1 k2
      · exact ⟨⟨ne, k1, k2⟩, raw_mem.mpr (.inl h)⟩
      · exact ⟨⟨ne.symm, k2, k1⟩, raw_mem.mpr (.inr ⟨h, ne⟩)⟩
    refine ⟨linkD_dP (p := (a, b)) (m.ok.1 a key.1.2.1) (m.ok.1 b key.1.2.2) key.1.1, ?_⟩
    unfold nbOf
    rw [nearOf_look key.1.2.1]
    exact (srtS_perm _).mem_iff.mpr key.2
theorem plk {d : D} (h : d.inst = true) (k : ∀ l, d = .tup l → ∀ e ∈ l, e.inst = true ∧ ∀ s, e = .str s → s.length ≤ 1000) : preLink [d] := ⟨d, rfl, h, k⟩
theorem plk2 {a b : D} (ha : a.inst = true ∧ ∀ s, a = .str s → s.length ≤ 1000) (hb : b.inst = true ∧ ∀ s, b = .str s → s.length ≤ 1000) : preLink [.tup [a, b]] := plk rfl fun l e x hx => by
  cases e
  rcases List.mem_cons.mp hx with e | hx
  · rw [e]; exact ha
  · rw [List.mem_singleton.mp hx]; exact hb
theorem shS {s : Str} (h : s.length ≤ 1000) : (D.str s).inst = true ∧ ∀ t, D.str s = .str t → t.length ≤ 1000 := ⟨rfl, fun t e => by cases e; exact h⟩
def Odd (sp : List Str) (ps : List Lk) (d : D) : Prop := preLink [d] ∧ inNet (nearOf sp ps) d = false
theorem odd_str {sp : List Str} {ps : List Lk} {s : Str} (h : s ∉ sp) : Odd sp ps (.str s) := ⟨plk rfl fun l e => (nomatch e), by
  show decide (s ∈ (nearOf sp ps).map (·.1)) = false
  rw [near_keys]
  exact decide_eq_false h⟩
theorem odd_pair {sp : List Str} {ps : List Lk} (m : MdB sp ps) {a b : Str} (ha : a.length ≤ 1000) (hb : b.length ≤ 1000) (h : ordP (a, b) ∉ ps) : Odd sp ps (.tup [.str a, .str b]) := ⟨plk2 (shS ha) (shS hb), by
  cases z : inNet (nearOf sp ps) (.tup [.str a, .str b]) with
  | false => rfl
  | true => exact absurd ((has_iff m a b).mp z) h⟩
theorem not_name {sp : List Str} {ps : List Lk} (m : MdB sp ps) {s : Str} (h : nameOk s = false ∨ 5 < s.length) : s ∉ sp := fun hs => by
  obtain ⟨a, b⟩ := m.sk s hs
  rcases h with h | h
  · rw [h] at a; cases a
  · omega
theorem upper_no {s : Str} (h : nameOk s = true) : nameOk (Txt.upper s) = false := by
  obtain ⟨h1, _, h3⟩ := nameOk_iff.mp h
  have es : s = SX.S s.cps.toList := (SX.S_tl s).symm
  have asc7 : s.cps.toList.all (· < 128) = true := List.all_eq_true.mpr fun c hc => by
    have all : ∀ c ∈ letS.cps.toList, decide (c < 128) = true := by decide +kernel
    exact all c (h3 c hc)
  have eu := SX.upper_S asc7
  rw [← es] at eu
  have ec : (Txt.upper s).cps.toList = s.cps.toList.map PyProof.Rows.up1 := by rw [eu]
  have ne : s.cps.toList ≠ [] := fun z => by rw [len_cps, z] at h1; simp at h1
  cases z : nameOk (Txt.upper s) with
  | false => rfl
  | true =>
    exfalso
    have q := (nameOk_iff.mp z).2.2
    rw [ec] at q
    cases hs : s.cps.toList with
    | nil => exact ne hs
    | cons c r =>
      rw [hs] at q h3
      have a := q (PyProof.Rows.up1 c) (by simp)
      have no : ∀ c ∈ letS.cps.toList, PyProof.Rows.up1 c ∉ letS.cps.toList := by decide +kernel
      exact no c (h3 c (by simp)) a
theorem rp_bools (b : Bool) (n : Nat) (hn : n ≤ 1000) : Rp (List.replicate n (.bl b)) := by
  refine ⟨?_, ?_, ?_⟩
  · clear hn
    induction n with
    | zero => rfl
    | succ n ih => rw [List.replicate_succ]; show (true && D.okAll 9 (List.replicate n (.bl b))) = true; rw [ih]; rfl
  · clear hn
    induction n with
    | zero => rfl
    | succ n ih => rw [List.replicate_succ]; show (true && D.smAll (List.replicate n (.bl b))) = true; rw [ih]; rfl
  · have : D.wtAll (List.replicate n (.bl b)) = n := by
      clear hn
      induction n with
      | zero => rfl
      | succ n ih => rw [List.replicate_succ]; show 0 + 1 + D.wtAll (List.replicate n (.bl b)) = n + 1; rw [ih]; omega
    omega
theorem rep_one {α : Type} (n : Nat) (x : α) : (List.replicate n [x]).flatten = List.replicate n x := by
  induction n with
  | zero => rfl
  | succ n ih => rw [List.replicate_succ, List.flatten_cons, ih, List.replicate_succ]; rfl
section
variable {B : Bs} {Γ : Ctx}
theorem we_ix0 {R : D → Prop} {i : Nat} {l : List D} {d : D} (h : Γ[i]? = some (.da (.lst l))) (h0 : l[0]? = some d) (q : R d) : WE B (tOp (rIxL B.W.K) (tVar i) (tC (.int 0))) Γ R := by
  have hl : 0 < l.length := by
    cases l with
    | nil => cases h0
    | cons a r => exact Nat.succ_pos _
  exact we_op (we_var h (we_int (v2_ixLn (Int.le_refl _) (by omega) fun e he => by rw [show (0 : Int).toNat = 0 from rfl, h0] at he; cases he; exact q)))
theorem we_ixm {R : D → Prop} {i : Nat} {l : List D} {d : D} (h : Γ[i]? = some (.da (.lst l))) (h0 : l[l.length - 1]? = some d) (q : R d) : WE B (tOp (rIxL B.W.K) (tVar i) (tUn (rU fun i => .int (-i)) (tC (.int 1)))) Γ R := by
  have hl : 0 < l.length := by
    cases l with
    | nil => cases h0
    | cons a r => exact Nat.succ_pos _
  exact we_op (we_var h (we_un (we_int (v1_neg (v2_ixLm hl fun e he => by rw [h0] at he; cases he; exact q)))))
end
theorem odd_no {sp : List Str} {ps : List Lk} {d : D} (h : preLink [d]) (n : ∀ s, d ≠ .str s) (k : ∀ a b, d ≠ .tup [.str a, .str b]) : Odd sp ps d := ⟨h, by
  have z : hasD (nearOf sp ps) d = false := by
    unfold hasD
    split
    · exact absurd rfl (k _ _)
    · rfl
  cases d with
  | str s => exact absurd rfl (n s)
  | _ => exact z⟩
theorem map_take {α β : Type} {f : α → β} {l : List α} {i : Nat} {p : α} (h : l[i]? = some p) : (l.take (i + 1)).map f = (l.take i).map f ++ [f p] := by
  rw [List.take_add_one, h, List.map_append]
  rfl
theorem nine_no {s : Str} : nameOk (s ++ "9") = false := by
  cases z : nameOk (s ++ "9") with
  | false => rfl
  | true =>
    exfalso
    have q := (nameOk_iff.mp z).2.2 57 (by rw [show (s ++ "9" : Str).cps = s.cps ++ ("9" : Str).cps from rfl, Array.toList_append]; exact List.mem_append_right _ (by decide +kernel))
    exact absurd q (by decide +kernel)
theorem odd_app {sp : List Str} {ps : List Lk} {a b : List D} (h : ∀ d ∈ a, Odd sp ps d) (k : ∀ d ∈ b, Odd sp ps d) : ∀ d ∈ a ++ b, Odd sp ps d := fun d hd => (List.mem_append.mp hd).elim (h d) (k d)
section
variable {P : Program} {w : World} {K : PySem.W.Frag} {mg : Str → Option Value} {base : Heap} {C : Addr}
abbrev sInRight : Stmt := top 50
abbrev nInRight : List Str := ["_law_pot_here", "_law_made", "_law_model", "_law_some", "_law_odd", "_law_turn", "_law_spots", "_law_pairs", "_law_this", "_law_mate", "_law_thing", "_law_pair"]
theorem scInRight : FnScope nInRight ["_law_pot_here", "_law_made", "_law_model"] (defScope sInRight) := ⟨rfl, rfl, rfl, by decide +kernel, rfl, by decide +kernel, by decide +kernel⟩
def preInR : List D → Prop := fun ds => ∃ sp ps, ds = [.pot, mdN sp ps, modD sp ps] ∧ MdB sp ps
abbrev CContains (P : Program) (w : World) (K : PySem.W.Frag) (mg : Str → Option Value) (base : Heap) (C : Addr) : Prop := Mt P w K mg base C 4 "__contains__" ["self", "value"] (SpD K C preHas postIn)
/-- [thing in made for thing in l]: all b -/
theorem wo_allin {B : Bs} {Γ : Ctx} {l : List D} {i v : Nat} {sp : List Str} {ps : List Lk} {b : Bool} {R : List D → Prop} (hv : v < Γ.length) (hm : ((wipeC Γ [v]).set v .no)[1]? = some (.da (mdN sp ps))) (h1v : v ≠ 1) (hi : Γ[i]? = some (.da (.lst l))) (hl : l.length ≤ 1000) (h : ∀ d ∈ l, preLink [d] ∧ inNet (nearOf sp ps) d = b)
    (q : R (List.replicate l.length (.bl b))) : WO B (tLc (iList B.W.K (tVar i)) (gName v) tYes (tOp (rInN B.W.C (SpD B.W.K B.W.C preHas postIn) false) (tVar v) (tVar 1)) [v]) Γ R := by
  refine wo_lc (go_name (by simp)) (wi_list (we_var hi ⟨_, rfl, by omega, fun j acc => acc = List.replicate j (.bl b), rfl, ?_, fun acc e => by rw [e]; exact q⟩))
  rintro j d acc hd rfl
  obtain ⟨h1, h2⟩ := h d (List.mem_of_getElem? hd)
  refine wg_name (wt_yes ⟨fun _ => ?_, fun h => nomatch h⟩)
  refine we_inN (we_var (d := d) (by rw [List.getElem?_set_self (by rw [wipe_len]; exact hv)]) (we_var (d := mdN sp ps) (by rw [List.getElem?_set_ne h1v] at hm ⊢; exact hm) ⟨_, _, _, rfl, ⟨_, _, _, _, rfl, h1⟩, fun r hr => ⟨_, hr _ _ _ _ rfl, ?_⟩⟩))
  rw [h2]
  show List.replicate j (D.bl b) ++ [.bl b] = List.replicate (j + 1) (.bl b)
  rw [List.replicate_succ']
theorem gcl_in_right (F : Fd K mg "_law_in_right" ["_law_pot_here", "_law_made", "_law_model"] sInRight) (M : Mb mg) (T : NetT K C) (m_contains : CContains P w K mg base C) (c_pick : CPick P w K mg base C) (c_link : CLink P w K mg base C) :
    GCl P w K mg base 6 "_law_in_right" ["_law_pot_here", "_law_made", "_law_model"] (SpD K C preInR fun _ d => d = .bl true) := F.gcl fun f fd F => by
  refine gfnD F scInRight (fun ds ⟨_, _, e, _⟩ => by rw [e]; rfl) fun cdv A outer s H E hr hg => ?_
  have hu64 := hu65 hr
  have hu := hu_of hr
  refine ⟨_, (pss_cons (ps_par (i := 6) (j := 7) (by rfl) scInRight.nd rfl rfl (by decide) rfl rfl (pa_cons (pe_dget hu (pv 2) pe_str (fun _ _ => rfl)) (pa_cons (pe_dget hu (pv 2) pe_str (fun _ _ => rfl)) pa_nil)) (by rfl))
    (pss_cons (ps_set (i := 3) scInRight.nd rfl (by first | exact Or.inl rfl | exact Or.inr rfl) (pe_op op_cat (pe_op op_cat (pv 6) (pv 7)) (pe_lc (own := [("_law_this", 8), ("_law_mate", 9)]) (by rfl) scInRight.nd (pi_list (pv 7)) (blkOk_by (N := nInRight) (sc := defScope sInRight) (by decide +kernel)) (fun _ _ _ _ _ => (pg_tupK (K := K) (n := 2) rfl (by rfl) (pgs_cons (pg_name (i := 8) scInRight.nd rfl (by first | exact Or.inl rfl | exact Or.inr rfl)) (pgs_cons (pg_name (i := 9) scInRight.nd rfl (by first | exact Or.inl rfl | exact Or.inr rfl)) pgs_nil)))) (fun _ _ _ _ _ => pts_nil) (fun _ _ _ _ _ => (pe_tup (pa_cons (pv 9) (pa_cons (pv 8) pa_nil)))))))
    (pss_cons (ps_if (pt_cmpR op_ne (pe_callB (call_reprD hg hu64) (by rfl) M.repr (by decide +kernel) (pa_cons (pe_lc (own := [("_law_thing", 10)]) (by rfl) scInRight.nd (pi_list (pv 3)) (blkOk_by (N := nInRight) (sc := defScope sInRight) (by decide +kernel)) (fun _ _ _ _ _ => (pg_name (i := 10) scInRight.nd rfl (by first | exact Or.inl rfl | exact Or.inr rfl))) (fun _ _ _ _ _ => pts_nil) (fun _ _ _ _ _ => (pe_cmpR (op_inN m_contains (hr.mono (by decide))) (pv 10) (pv 1) (by rfl)))) pa_nil)) (pe_callB (call_reprD hg hu64) (by rfl) M.repr (by decide +kernel) (pa_cons (pe_op op_rep (pe_lst (pa_cons pe_bl pa_nil)) (pe_callB call_len2 (by rfl) M.len PySem.boot_len (pa_cons (pv 3) pa_nil))) pa_nil)) (nomark _)) (pss_one (ps_ret pe_bl)) pss_nil)
    (pss_cons (ps_set (i := 4) scInRight.nd rfl (by first | exact Or.inl rfl | exact Or.inr rfl) (pe_lst (pa_cons pe_non (pa_cons pe_int (pa_cons pe_bl (pa_cons pe_str (pa_cons pe_str (pa_cons pe_str (pa_cons (pe_tup pa_nil) (pa_cons (pe_lst pa_nil) (pa_cons pe_dnewK (pa_cons (pe_lst (pa_cons (pe_ix ix_list (pv 6) pe_int (fun _ _ => rfl)) pa_nil)) (pa_cons (pe_tup (pa_cons (pe_ix ix_list (pv 6) pe_int (fun _ _ => rfl)) pa_nil)) (pa_cons (pe_tup (pa_cons (pe_ix ix_list (pv 6) pe_int (fun _ _ => rfl)) (pa_cons (pe_ix ix_list (pv 6) pe_int (fun _ _ => rfl)) pa_nil))) pa_nil))))))))))))))
    (pss_cons (ps_set (i := 4) scInRight.nd rfl (by first | exact Or.inl rfl | exact Or.inr rfl) (pe_op op_cat (pv 4) (pe_lst (pa_cons (pe_op op_add_str (pe_ix ix_list (pv 6) pe_int (fun _ _ => rfl)) pe_str) (pa_cons (pe_upper (pe_ix ix_list (pv 6) pe_int (fun _ _ => rfl))) pa_nil)))))
    (pss_cons (ps_set (i := 4) scInRight.nd rfl (by first | exact Or.inl rfl | exact Or.inr rfl) (pe_op op_cat (pv 4) (pe_lst (pa_cons (pe_tup (pa_cons (pe_ix ix_list (pv 6) pe_int (fun _ _ => rfl)) (pa_cons pe_non pa_nil))) (pa_cons (pe_tup (pa_cons pe_non (pa_cons (pe_ix ix_list (pv 6) pe_int (fun _ _ => rfl)) pa_nil))) (pa_cons (pe_tup (pa_cons (pe_ix ix_list (pv 6) pe_int (fun _ _ => rfl)) (pa_cons pe_str pa_nil))) (pa_cons (pe_tup (pa_cons pe_str (pa_cons (pe_ix ix_list (pv 6) pe_int (fun _ _ => rfl)) pa_nil))) (pa_cons pe_str (pa_cons (pv 1) pa_nil)))))))))
    (pss_cons (ps_set (i := 4) scInRight.nd rfl (by first | exact Or.inl rfl | exact Or.inr rfl) (pe_op op_cat (pe_op op_cat (pv 4) (pe_lc (own := [("_law_pair", 11)]) (by rfl) scInRight.nd (pi_list (pv 7)) (blkOk_by (N := nInRight) (sc := defScope sInRight) (by decide +kernel)) (fun _ _ _ _ _ => (pg_name (i := 11) scInRight.nd rfl (by first | exact Or.inl rfl | exact Or.inr rfl))) (fun _ _ _ _ _ => pts_nil) (fun _ _ _ _ _ => (pe_callTy (T := "list") (r := rList K) (call_listK (K := K) rfl) (by rfl) M.list (by decide +kernel) (pa_cons (pv 11) pa_nil))))) (pe_lc (own := [("_law_this", 8), ("_law_mate", 9)]) (by rfl) scInRight.nd (pi_list (pv 7)) (blkOk_by (N := nInRight) (sc := defScope sInRight) (by decide +kernel)) (fun _ _ _ _ _ => (pg_tupK (K := K) (n := 2) rfl (by rfl) (pgs_cons (pg_name (i := 8) scInRight.nd rfl (by first | exact Or.inl rfl | exact Or.inr rfl)) (pgs_cons (pg_name (i := 9) scInRight.nd rfl (by first | exact Or.inl rfl | exact Or.inr rfl)) pgs_nil)))) (fun _ _ _ _ _ => pts_nil) (fun _ _ _ _ _ => (pe_tup (pa_cons (pv 8) (pa_cons (pv 9) (pa_cons (pv 8) pa_nil))))))))
    (pss_cons (ps_set (i := 4) scInRight.nd rfl (by first | exact Or.inl rfl | exact Or.inr rfl) (pe_op op_cat (pv 4) (pe_lst (pa_cons (pe_tup (pa_cons (pe_ix ix_list (pv 6) pe_int (fun _ _ => rfl)) (pa_cons (pe_lst (pa_cons (pe_ix ix_list (pv 6) (pe_un un_neg pe_int) (fun _ _ => rfl)) pa_nil)) pa_nil))) (pa_cons (pe_tup (pa_cons (pe_tup (pa_cons (pe_ix ix_list (pv 6) pe_int (fun _ _ => rfl)) (pa_cons (pe_ix ix_list (pv 6) (pe_un un_neg pe_int) (fun _ _ => rfl)) pa_nil))) pa_nil)) (pa_cons (pe_disp (pps_cons (pe_ix ix_list (pv 6) pe_int (fun _ _ => rfl)) (pe_ix ix_list (pv 6) (pe_un un_neg pe_int) (fun _ _ => rfl)) pps_nil) (by rfl) (by rfl) (fun z => by cases z) (by decide)) pa_nil))))))
    (pss_cons (ps_for PassesOwn.never rfl (pi_range1 (by rfl) M.range (pa_cons pe_int pa_nil)) (pg_name (i := 5) scInRight.nd rfl (by first | exact Or.inl rfl | exact Or.inr rfl)) (pss_cons (ps_par (i := 8) (j := 9) (by rfl) scInRight.nd rfl rfl (by decide) rfl rfl (pa_cons (pcl c_pick (hr.mono (by decide)) (pa_cons (pv 0) (pa_cons (pv 6) pa_nil))) (pa_cons (pcl c_pick (hr.mono (by decide)) (pa_cons (pv 0) (pa_cons (pv 6) pa_nil))) pa_nil)) (by rfl))
    (pss_one (ps_if (pt_cmpR (op_notInD (hu65 hr)) (pcl c_link (hr.mono (by decide)) (pa_cons (pv 8) (pa_cons (pv 9) pa_nil))) (pv 7) (by rfl)) (pss_one (ps_expr (pe_bm PySem.F.plainAttrs_list PySem.F.slot_list_append PySem.F.type_list_append mt_append (pv 4) (pa_cons (pe_tup (pa_cons (pv 8) (pa_cons (pv 9) pa_nil))) pa_nil)))) pss_nil))))
    (pss_one (ps_ret (pe_cmpR op_eq (pe_callB (call_reprD hg hu64) (by rfl) M.repr (by decide +kernel) (pa_cons (pe_lc (own := [("_law_thing", 10)]) (by rfl) scInRight.nd (pi_list (pv 4)) (blkOk_by (N := nInRight) (sc := defScope sInRight) (by decide +kernel)) (fun _ _ _ _ _ => (pg_name (i := 10) scInRight.nd rfl (by first | exact Or.inl rfl | exact Or.inr rfl))) (fun _ _ _ _ _ => pts_nil) (fun _ _ _ _ _ => (pe_cmpR (op_inN m_contains (hr.mono (by decide))) (pv 10) (pv 1) (by rfl)))) pa_nil)) (pe_callB (call_reprD hg hu64) (by rfl) M.repr (by decide +kernel) (pa_cons (pe_op op_rep (pe_lst (pa_cons pe_bl pa_nil)) (pe_callB call_len2 (by rfl) M.len PySem.boot_len (pa_cons (pv 4) pa_nil))) pa_nil)) (nomark _))))))))))))), fun pot old M H ds hp => ?_⟩
  obtain ⟨sp, ps, rfl, m⟩ := hp
  have W := m.prs
  have b1 := m.b1
  have b2 := m.b2
  have s1 := m.s1
  obtain ⟨o1, o2⟩ := m.ok
  dsimp only [cxOf, Cx.nox, Cx.wish]
  show WS _ _ [.da .pot, .da (mdN sp ps), .da (modD sp ps), .no, .no, .no, .no, .no, .no, .no, .no, .no] _
  refine ws_seq (ws_par2 (wf_da (we_dget (we_var rfl ⟨_, rfl, we_str ⟨_, _, rfl, mod_spots sp ps, wf_da (we_dget (we_var rfl ⟨_, rfl, we_str ⟨_, _, rfl, mod_pairs sp ps, ?_⟩⟩))⟩⟩))))
  show WS _ _ [.da .pot, .da (mdN sp ps), .da (modD sp ps), .no, .no, .no, .da (.lst (sS sp)), .da (.lst (dPs ps)), .no, .no, .no, .no] _
  -- what must be in
  have flip : ∀ (Γ : Ctx) (R : List D → Prop), True → True := fun _ _ h => h
  refine ws_seq (ws_asg (WO.we (wo_op (WO.we (wo_op (we_var rfl (we_var rfl (v2o_cat (by rw [sS_len, dPs_len]; omega) (WO.we (wo_lc (go_tup2 (by simp) (by simp)) (wi_list (we_var rfl ⟨_, rfl, by rw [dPs_len]; omega, fun i acc => acc = dPs ((ps.take i).map fun p => (p.2, p.1)), rfl, ?_, ?_⟩))))))))))))
  · rintro i d acc hd rfl
    obtain ⟨p, rfl, hp⟩ := get_dPs hd
    refine wg_tup2 (wg_name (wg_name (wt_yes ⟨fun _ => ?_, fun h => nomatch h⟩)))
    show WE _ _ [.da .pot, .da (mdN sp ps), .da (modD sp ps), .no, .no, .no, .da (.lst (sS sp)), .da (.lst (dPs ps)), .da (.str p.1), .da (.str p.2), .no, .no] _
    repeat (walk_at "w")
    refine ⟨by show (2 : Nat) ≤ 1000; decide, ?_⟩
    show _ = dPs ((ps.take (i + 1)).map fun p => (p.2, p.1))
    rw [List.take_add_one, hp, List.map_append]
    simp [dPs, dP]
  rintro acc rfl
  rw [dPs_len, List.take_length]
  refine v2o_cat (by rw [List.length_append, sS_len, dPs_len, dPs_len, List.length_map]; omega) (wg_name ?_)
  generalize hsome : sS sp ++ dPs ps ++ dPs (ps.map fun p => (p.2, p.1)) = sm
  have sl : sm.length ≤ 1000 := by rw [← hsome, List.length_append, List.length_append, sS_len, dPs_len, dPs_len, List.length_map]; omega
  have allin : ∀ d ∈ sm, preLink [d] ∧ inNet (nearOf sp ps) d = true := fun d hd => by
    rw [← hsome] at hd
    have pr : ∀ a b : Str, ordP (a, b) ∈ ps → preLink [.tup [.str a, .str b]] ∧ inNet (nearOf sp ps) (.tup [.str a, .str b]) = true := fun a b h => by
      have z := (has_iff m a b).mpr h
      have n := (m.pk _ h).2.2
      have la : a.length ≤ 1000 ∧ b.length ≤ 1000 := by
        rcases ordP_ends (a, b) with e | e <;> rw [e] at n <;> have x := name_len (o1 _ n.1) <;> have y := name_len (o1 _ n.2) <;> dsimp only at x y <;> omega
      exact ⟨plk2 (shS la.1) (shS la.2), z⟩
    rcases List.mem_append.mp hd with hd | hd
    · rcases List.mem_append.mp hd with hd | hd
      · obtain ⟨s, hs, rfl⟩ := List.mem_map.mp hd
        refine ⟨plk rfl fun l e => (nomatch e), ?_⟩
        show decide (s ∈ (nearOf sp ps).map (·.1)) = true
        rw [near_keys]
        exact decide_eq_true hs
      · obtain ⟨p, hp, rfl⟩ := List.mem_map.mp hd
        exact pr p.1 p.2 (by rw [show (p.1, p.2) = p from rfl, (m.pk p hp).1]; exact hp)
    · obtain ⟨q, hq, rfl⟩ := List.mem_map.mp hd
      obtain ⟨p, hp, rfl⟩ := List.mem_map.mp hq
      exact pr p.2 p.1 (by rw [ordP_flip, (m.pk p hp).1]; exact hp)
  show WS _ _ [.da .pot, .da (mdN sp ps), .da (modD sp ps), .da (.lst sm), .no, .no, .da (.lst (sS sp)), .da (.lst (dPs ps)), .no, .no, .no, .no] _
  refine ws_seq (ws_if (wt_test (we_op (we_cb (wa_cons (WO.we (wo_allin (sp := sp) (ps := ps) (b := true) (by show 10 < 12; decide) rfl (by decide) rfl sl allin (wa_nil (vc_reprL (rp_bools true _ sl) (we_cb (wa_cons (WO.we (wo_op ?_)))))))))))))
  repeat (walk_at "w")
  refine WO.we (wo_lst (wa_cons (we_bl (wa_nil ⟨by show (1 : Nat) ≤ 1000; decide, ?_⟩))))
  repeat (walk_at "w")
  refine v2o_rep (by omega) (by omega) (Nat.le_refl _) ?_
  rw [Int.toNat_natCast, rep_one]
  refine wa_nil (vc_reprL (rp_bools true _ sl) (v2_neSS ⟨_, rfl, fun h => ?_, fun _ => ws_next ?_⟩))
  · simp at h
  -- the odd ones
  obtain ⟨s0, hs0⟩ : ∃ s0, sp[0]? = Option.some s0 := ⟨_, List.getElem?_eq_getElem (by omega)⟩
  obtain ⟨sz, hsz⟩ : ∃ sz, sp[sp.length - 1]? = Option.some sz := ⟨_, List.getElem?_eq_getElem (by omega)⟩
  have h0 : (sS sp)[0]? = Option.some (.str s0) := by
    show (sp.map D.str)[0]? = _
    rw [List.getElem?_map, hs0]; rfl
  have hz : (sS sp)[(sS sp).length - 1]? = Option.some (.str sz) := by
    rw [sS_len]
    show (sp.map D.str)[sp.length - 1]? = _
    rw [List.getElem?_map, hsz]; rfl
  have m0 := List.mem_of_getElem? hs0
  have mz := List.mem_of_getElem? hsz
  have l0 : s0.length ≤ 1000 := by have := name_len (o1 s0 m0); omega
  have lz : sz.length ≤ 1000 := by have := name_len (o1 sz mz); omega
  have flat : ∀ d : D, (∀ l, d ≠ .tup l) → d.inst = true → preLink [d] := fun d h k => plk k fun l e => absurd e (h l)
  refine ws_seq (ws_asg (WO.we (wo_lst (wa_cons (we_non (wa_cons (we_int (wa_cons (we_bl (wa_cons (we_str (wa_cons (we_str (wa_cons (we_str (wa_cons (we_tup (wa_nil ⟨by show (0 : Nat) ≤ 1000; decide, ?_⟩))))))))))))))))))
  refine wa_cons (WO.we (wo_lst (wa_nil ⟨by show (0 : Nat) ≤ 1000; decide, wa_cons (WK.we (wk_new ?_))⟩)))
  refine wa_cons (WO.we (wo_lst (wa_cons (we_ix0 rfl h0 (wa_nil ⟨by show (1 : Nat) ≤ 1000; decide, ?_⟩)))))
  refine wa_cons (we_tup (wa_cons (we_ix0 rfl h0 (wa_nil ⟨by show (1 : Nat) ≤ 1000; decide, ?_⟩))))
  refine wa_cons (we_tup (wa_cons (we_ix0 rfl h0 (wa_cons (we_ix0 rfl h0 (wa_nil ⟨by show (2 : Nat) ≤ 1000; decide, ?_⟩))))))
  refine wa_nil ⟨by show (12 : Nat) ≤ 1000; decide, wg_name ?_⟩
  generalize hq1 : [D.non, .int 0, .bl true, .str "", .str "A", .str "zzzzzzzzz", .tup [], .lst [], .dic [], .lst [.str s0], .tup [.str s0], .tup [.str s0, .str s0]] = q1
  have n1 : q1.length = 12 := by rw [← hq1]; rfl
  have k1 : ∀ d ∈ q1, Odd sp ps d := by
    rw [← hq1]
    intro d hd
    simp only [List.mem_cons, List.not_mem_nil, or_false] at hd
    rcases hd with rfl | rfl | rfl | rfl | rfl | rfl | rfl | rfl | rfl | rfl | rfl | rfl
    · exact odd_no (flat _ (fun l e => (nomatch e)) rfl) (fun s e => (nomatch e)) fun a b e => (nomatch e)
    · exact odd_no (flat _ (fun l e => (nomatch e)) rfl) (fun s e => (nomatch e)) fun a b e => (nomatch e)
    · exact odd_no (flat _ (fun l e => (nomatch e)) rfl) (fun s e => (nomatch e)) fun a b e => (nomatch e)
    · exact odd_str (not_name m (.inl (by decide +kernel)))
    · exact odd_str (not_name m (.inl (by decide +kernel)))
    · exact odd_str (not_name m (.inr (by decide +kernel)))
    · exact odd_no (plk rfl fun l e x hx => by cases e; cases hx) (fun s e => (nomatch e)) fun a b e => (nomatch e)
    · exact odd_no (flat _ (fun l e => (nomatch e)) rfl) (fun s e => (nomatch e)) fun a b e => (nomatch e)
    · exact odd_no (flat _ (fun l e => (nomatch e)) rfl) (fun s e => (nomatch e)) fun a b e => (nomatch e)
    · exact odd_no (flat _ (fun l e => (nomatch e)) rfl) (fun s e => (nomatch e)) fun a b e => (nomatch e)
    · exact odd_no (plk rfl fun l e x hx => by cases e; rw [List.mem_singleton.mp hx]; exact shS l0) (fun s e => (nomatch e)) fun a b e => (nomatch e)
    · refine odd_pair m l0 l0 fun h => ?_
      have ne := (m.pk _ h).2.1
      rcases ordP_ends (s0, s0) with e | e <;> rw [e] at ne <;> exact ne rfl
  show WS _ _ [.da .pot, .da (mdN sp ps), .da (modD sp ps), .da (.lst sm), .da (.lst q1), .no, .da (.lst (sS sp)), .da (.lst (dPs ps)), .no, .no, .no, .no] _
  have nine : ("9" : Str).length = 1 := by decide +kernel
  refine ws_seq (ws_asg (WO.we (wo_op (we_var rfl (WO.we (wo_lst (wa_cons (we_op (we_ix0 rfl h0 (we_str (v2_addS (a := s0) (b := "9") (by rw [nine]; omega) (wa_cons (we_upper rfl (we_ix0 rfl h0 ⟨_, rfl, l0, wa_nil ⟨by show (2 : Nat) ≤ 1000; decide, v2o_cat (by rw [n1]; show 12 + 2 ≤ 10000; decide) (wg_name ?_)⟩⟩))))))))))))))
  generalize hq2 : q1 ++ [D.str (s0 ++ "9"), .str (Txt.upper s0)] = q2
  have n2 : q2.length = 14 := by rw [← hq2, List.length_append, n1]; rfl
  have k2 : ∀ d ∈ q2, Odd sp ps d := by
    rw [← hq2]
    refine odd_app k1 ?_
    intro d hd
    simp only [List.mem_cons, List.not_mem_nil, or_false] at hd
    rcases hd with rfl | rfl
    · exact odd_str (not_name m (.inl nine_no))
    · exact odd_str (not_name m (.inl (upper_no (o1 s0 m0))))
  show WS _ _ [.da .pot, .da (mdN sp ps), .da (modD sp ps), .da (.lst sm), .da (.lst q2), .no, .da (.lst (sS sp)), .da (.lst (dPs ps)), .no, .no, .no, .no] _
  refine ws_seq (ws_asg (WO.we (wo_op (we_var rfl (WO.we (wo_lst (wa_cons (we_tup (wa_cons (we_ix0 rfl h0 (wa_cons (we_non (wa_nil ⟨by show (2 : Nat) ≤ 1000; decide, ?_⟩)))))))))))))
  refine wa_cons (we_tup (wa_cons (we_non (wa_cons (we_ix0 rfl h0 (wa_nil ⟨by show (2 : Nat) ≤ 1000; decide, ?_⟩))))))
  refine wa_cons (we_tup (wa_cons (we_ix0 rfl h0 (wa_cons (we_str (wa_nil ⟨by show (2 : Nat) ≤ 1000; decide, ?_⟩))))))
  refine wa_cons (we_tup (wa_cons (we_str (wa_cons (we_ix0 rfl h0 (wa_nil ⟨by show (2 : Nat) ≤ 1000; decide, ?_⟩))))))
  refine wa_cons (we_str (wa_cons (we_var rfl (wa_nil ⟨by show (6 : Nat) ≤ 1000; decide, v2o_cat (by rw [n2]; show 14 + 6 ≤ 10000; decide) (wg_name ?_)⟩))))
  generalize hq3 : q2 ++ [D.tup [.str s0, .non], .tup [.non, .str s0], .tup [.str s0, .str "zzzzzzzz"], .tup [.str "zzzzzzzz", .str s0], .str "zzzzzzzz", mdN sp ps] = q3
  have n3 : q3.length = 20 := by rw [← hq3, List.length_append, n2]; rfl
  have k3 : ∀ d ∈ q3, Odd sp ps d := by
    rw [← hq3]
    refine odd_app k2 ?_
    have zs : ("zzzzzzzz" : Str) ∉ sp := not_name m (.inr (by decide +kernel))
    have zl : ("zzzzzzzz" : Str).length ≤ 1000 := by decide +kernel
    intro d hd
    simp only [List.mem_cons, List.not_mem_nil, or_false] at hd
    rcases hd with rfl | rfl | rfl | rfl | rfl | rfl
    · exact odd_no (plk2 (shS l0) ⟨rfl, fun t e => (nomatch e)⟩) (fun s e => (nomatch e)) fun a b e => (nomatch e)
    · exact odd_no (plk2 ⟨rfl, fun t e => (nomatch e)⟩ (shS l0)) (fun s e => (nomatch e)) fun a b e => (nomatch e)
    · refine odd_pair m l0 zl fun h => ?_
      have k := (m.pk _ h).2.2
      rcases ordP_ends (s0, "zzzzzzzz") with e | e <;> rw [e] at k
      · exact zs k.2
      · exact zs k.1
    · refine odd_pair m zl l0 fun h => ?_
      have k := (m.pk _ h).2.2
      rcases ordP_ends ("zzzzzzzz", s0) with e | e <;> rw [e] at k
      · exact zs k.1
      · exact zs k.2
    · exact odd_str zs
    · exact odd_no (flat _ (fun l e => (nomatch e)) rfl) (fun s e => (nomatch e)) fun a b e => (nomatch e)
  show WS _ _ [.da .pot, .da (mdN sp ps), .da (modD sp ps), .da (.lst sm), .da (.lst q3), .no, .da (.lst (sS sp)), .da (.lst (dPs ps)), .no, .no, .no, .no] _
  refine ws_seq (ws_asg (WO.we (wo_op (WO.we (wo_op (we_var rfl (WO.we (wo_lc (go_name (by simp)) (wi_list (we_var rfl ⟨_, rfl, by rw [dPs_len]; omega, fun i acc => acc = (ps.take i).map fun p => D.lst [.str p.1, .str p.2], rfl, ?_, ?_⟩))))))))))
  · rintro i d acc hd rfl
    obtain ⟨p, rfl, hp⟩ := get_dPs hd
    refine wg_name (wt_yes ⟨fun _ => ?_, fun h => nomatch h⟩)
    show WE _ _ [.da .pot, .da (mdN sp ps), .da (modD sp ps), .da (.lst sm), .da (.lst q3), .no, .da (.lst (sS sp)), .da (.lst (dPs ps)), .no, .no, .no, .da (dP p)] _
    refine WO.we (wo_cb (wa_cons (we_var rfl (wa_nil (vco_listT (l := [.str p.1, .str p.2]) ?_)))))
    exact (map_take hp).symm
  rintro acc rfl
  rw [dPs_len, List.take_length]
  refine v2o_cat (by rw [n3, List.length_map]; omega) ?_
  refine WO.we (wo_lc (go_tup2 (by simp) (by simp)) (wi_list (we_var rfl ⟨_, rfl, by rw [dPs_len]; omega, fun i acc => acc = (ps.take i).map fun p => D.tup [.str p.1, .str p.2, .str p.1], rfl, ?_, ?_⟩)))
  · rintro i d acc hd rfl
    obtain ⟨p, rfl, hp⟩ := get_dPs hd
    refine wg_tup2 (wg_name (wg_name (wt_yes ⟨fun _ => ?_, fun h => nomatch h⟩)))
    show WE _ _ [.da .pot, .da (mdN sp ps), .da (modD sp ps), .da (.lst sm), .da (.lst q3), .no, .da (.lst (sS sp)), .da (.lst (dPs ps)), .da (.str p.1), .da (.str p.2), .no, .no] _
    repeat (walk_at "w")
    refine ⟨by show (3 : Nat) ≤ 1000; decide, ?_⟩
    exact (map_take hp).symm
  rintro acc rfl
  rw [dPs_len, List.take_length]
  refine v2o_cat (by rw [List.length_append, n3, List.length_map, List.length_map]; omega) (wg_name ?_)
  generalize hq4 : q3 ++ (ps.map fun p => D.lst [.str p.1, .str p.2]) ++ (ps.map fun p => D.tup [.str p.1, .str p.2, .str p.1]) = q4
  have n4 : q4.length ≤ 240 := by rw [← hq4, List.length_append, List.length_append, n3, List.length_map, List.length_map]; omega
  have k4 : ∀ d ∈ q4, Odd sp ps d := by
    rw [← hq4]
    refine odd_app (odd_app k3 ?_) ?_
    · intro d hd
      obtain ⟨p, hp, rfl⟩ := List.mem_map.mp hd
      exact odd_no (flat _ (fun l e => (nomatch e)) rfl) (fun s e => (nomatch e)) fun a b e => (nomatch e)
    · intro d hd
      obtain ⟨p, hp, rfl⟩ := List.mem_map.mp hd
      have la : p.1.length ≤ 1000 ∧ p.2.length ≤ 1000 := ⟨by have := name_len (o2 p hp).1; omega, by have := name_len (o2 p hp).2; omega⟩
      refine odd_no (plk rfl fun l e x hx => ?_) (fun s e => (nomatch e)) fun a b e => (nomatch e)
      cases e
      simp only [List.mem_cons, List.not_mem_nil, or_false] at hx
      rcases hx with rfl | rfl | rfl
      · exact shS la.1
      · exact shS la.2
      · exact shS la.1
  show WS _ _ [.da .pot, .da (mdN sp ps), .da (modD sp ps), .da (.lst sm), .da (.lst q4), .no, .da (.lst (sS sp)), .da (.lst (dPs ps)), .no, .no, .no, .no] _
  refine ws_seq (ws_own (wo_op (we_var rfl (WO.we (wo_lst (wa_cons (we_tup (wa_cons (we_ix0 rfl h0 (wa_cons (WO.we (wo_lst (wa_cons (we_ixm rfl hz (wa_nil ⟨by show (1 : Nat) ≤ 1000; decide, wa_nil ⟨by show (2 : Nat) ≤ 1000; decide, ?_⟩⟩)))))))))))))))
  refine wa_cons (we_tup (wa_cons (we_tup (wa_cons (we_ix0 rfl h0 (wa_cons (we_ixm rfl hz (wa_nil ⟨by show (2 : Nat) ≤ 1000; decide, wa_nil ⟨by show (1 : Nat) ≤ 1000; decide, ?_⟩⟩))))))))
  refine wa_cons (WK.we (wk_disp (wp_cons (we_ix0 rfl h0 ⟨_, rfl, we_ixm rfl hz (wp_nil ⟨by show (1 : Nat) ≤ 15; decide, ?_⟩)⟩))))
  refine wa_nil ⟨by show (3 : Nat) ≤ 1000; decide, v2o_cat (by show q4.length + 3 ≤ 10000; omega) ?_⟩
  generalize hq5 : q4 ++ _ = q5
  have n5 : q5.length ≤ 243 := by rw [← hq5, List.length_append]; show q4.length + 3 ≤ 243; omega
  have k5 : ∀ d ∈ q5, Odd sp ps d := by
    rw [← hq5]
    refine odd_app k4 ?_
    intro d hd
    simp only [List.mem_cons, List.not_mem_nil, or_false] at hd
    rcases hd with rfl | rfl | rfl
    · exact odd_no (plk2 (shS l0) ⟨rfl, fun t e => (nomatch e)⟩) (fun s e => (nomatch e)) fun a b e => (nomatch e)
    · exact odd_no (plk rfl fun l e x hx => by cases e; rw [List.mem_singleton.mp hx]; exact ⟨rfl, fun t e => (nomatch e)⟩) (fun s e => (nomatch e)) fun a b e => (nomatch e)
    · exact odd_no (flat _ (fun l e => (nomatch e)) rfl) (fun s e => (nomatch e)) fun a b e => (nomatch e)
  show WS _ _ [.da .pot, .da (mdN sp ps), .da (modD sp ps), .da (.lst sm), .ow q5, .no, .da (.lst (sS sp)), .da (.lst (dPs ps)), .no, .no, .no, .no] _
  refine ws_seq (ws_for (wi_range1 ?_))
  repeat (walk_at "w")
  refine ⟨6, rfl, by decide, by decide, fun i Γ1 => ∃ q e5 e8 e9, Γ1 = [.da .pot, .da (mdN sp ps), .da (modD sp ps), .da (.lst sm), .ow q, e5, .da (.lst (sS sp)), .da (.lst (dPs ps)), e8, e9, .no, .no] ∧ (∀ d ∈ q, Odd sp ps d) ∧ q.length ≤ 243 + i, ⟨q5, _, _, _, rfl, k5, by omega⟩, ?_, ?_⟩
  · rintro i d Γ1 hd ⟨q, e5, e8, e9, rfl, kq, nq⟩
    have hi : i < 6 := by
      have := (List.getElem?_eq_some_iff.mp hd).1
      rw [intsD_len] at this
      exact this
    refine wg_name ?_
    show WS _ _ [.da .pot, .da (mdN sp ps), .da (modD sp ps), .da (.lst sm), .ow q, .da d, .da (.lst (sS sp)), .da (.lst (dPs ps)), e8, e9, .no, .no] _
    refine ws_seq (ws_par2 (wf_da ?_))
    repeat (walk_at "w")
    refine ⟨⟨_, rfl, by rw [sS_len]; omega, by rw [sS_len]; omega⟩, fun x hx => wf_da ?_⟩
    obtain ⟨a, ha, rfl⟩ := List.mem_map.mp (hx _ rfl)
    repeat (walk_at "w")
    refine ⟨⟨_, rfl, by rw [sS_len]; omega, by rw [sS_len]; omega⟩, fun x hx => ?_⟩
    obtain ⟨b, hb, rfl⟩ := List.mem_map.mp (hx _ rfl)
    show WS _ _ [.da .pot, .da (mdN sp ps), .da (modD sp ps), .da (.lst sm), .ow q, .da d, .da (.lst (sS sp)), .da (.lst (dPs ps)), .da (.str a), .da (.str b), .no, .no] _
    refine ws_if ?_
    repeat (walk_at "w")
    refine ⟨⟨a, b, rfl⟩, fun x hx => ?_⟩
    obtain rfl := hx a b rfl
    have ea := o1 a ha
    have eb := o1 b hb
    have eo : nameOk (ordP (a, b)).1 = true ∧ nameOk (ordP (a, b)).2 = true := by
      rcases ordP_ends (a, b) with e | e <;> rw [e]
      · exact ⟨ea, eb⟩
      · exact ⟨eb, ea⟩
    repeat (walk_at "w")
    refine v2_ninD (ok_dP 9 (name_strOk eo.1) (name_strOk eo.2)) (ok_dPs (n := 9) fun p hp => ⟨name_strOk (o2 p hp).1, name_strOk (o2 p hp).2⟩) (nob_dP _) (nob_dPs ps) fun b' hb' => ⟨_, rfl, fun h => ?_, fun h => ws_next ⟨q, _, _, _, rfl, kq, by omega⟩⟩
    have eb' := D_any_dPs hb'
    have nm : ordP (a, b) ∉ ps := by rw [eb'] at h; simpa using h
    refine ws_append (i := 4) rfl ?_
    repeat (walk_at "w")
    refine ⟨by show (2 : Nat) ≤ 1000; decide, by omega, q ++ [.tup [.str a, .str b]], _, _, _, rfl, odd_app kq fun x hx => ?_, by rw [List.length_append]; show q.length + 1 ≤ _; omega⟩
    rw [List.mem_singleton.mp hx]
    exact odd_pair m (by have := name_len ea; omega) (by have := name_len eb; omega) nm
  · rintro Γ1 ⟨q, e5, e8, e9, rfl, kq, nq⟩
    rw [intsD_len] at nq
    have ql : q.length ≤ 1000 := Nat.le_trans nq (by decide)
    refine ws_give (i := 4) rfl ?_
    show WS _ _ [.da .pot, .da (mdN sp ps), .da (modD sp ps), .da (.lst sm), .da (.lst q), e5, .da (.lst (sS sp)), .da (.lst (dPs ps)), e8, e9, .no, .no] _
    refine ws_ret (we_op (we_cb (wa_cons (WO.we (wo_allin (sp := sp) (ps := ps) (b := false) (by show 10 < 12; decide) rfl (by decide) rfl ql kq (wa_nil (vc_reprL (rp_bools false _ ql) (we_cb (wa_cons (WO.we (wo_op ?_)))))))))))
    repeat (walk_at "w")
    refine WO.we (wo_lst (wa_cons (we_bl (wa_nil ⟨by show (1 : Nat) ≤ 1000; decide, ?_⟩))))
    repeat (walk_at "w")
    refine v2o_rep (by omega) (by omega) (Nat.le_refl _) ?_
    rw [Int.toNat_natCast, rep_one]
    refine wa_nil (vc_reprL (rp_bools false _ ql) (v2_eqSS ?_))
    show D.bl _ = .bl true
    rw [decide_eq_true rfl]
end
end K11


/-! K11AD: Net(..), keywords. -/
namespace K11
open PySem PySem.Spec PyProof.Rows L2
local macro_rules | `(tactic| walk_at "w") => `(tactic| (first
  | (with_reducible refine ws_seq ?_)
  | (with_reducible refine ws_ret ?_)
  | (with_reducible refine ws_if ?_)
  | (with_reducible refine ws_asg ?_)
  | (with_reducible refine ws_break ?_)
  | (with_reducible refine ws_drop ?_)
  | (with_reducible refine we_var (by with_unfolding_all rfl) ?_)
  | (with_reducible refine we_int ?_)
  | (with_reducible refine we_str ?_)
  | (with_reducible refine we_bl ?_)
  | (with_reducible refine we_non ?_)
  | (with_reducible refine we_ty ?_)
  | (with_reducible refine we_cls ?_)
  | (with_reducible refine wa_cons ?_)
  | (with_reducible refine wa_nil ?_)
  | (with_reducible refine we_cb ?_)
  | (with_reducible refine vc_lenL ?_)
  | (with_reducible refine vc_lenT ?_)
  | (with_reducible refine v2_B0 ?_)
  | (with_reducible refine v2_I0 ?_)
  | (with_reducible refine we_call ?_)
  | (with_reducible refine we_op ?_)
  | (with_reducible refine we_tup ?_)
  | (with_reducible refine we_if ?_)
  | (with_reducible refine we_chain ?_)
  | (with_reducible refine wt_test ?_)
  | (with_reducible refine wt_B ?_)
  | (with_reducible refine wt_not ?_)
  | (with_reducible refine wt_or ?_)
  | (with_reducible refine wt_and ?_)))


/-- Net's making -/
structure Mks (P : Program) (w : World) (K : PySem.W.Frag) (mg : Str → Option Value) (base : Heap) (C : Addr) (k : Nat) (x : Str) (ps ks : List Str) (sp : Sp) : Prop where
  ex : ∃ (f : Addr) (fd : FuncData), Mk K C f ∧ FnOk P w K mg base CX0 k f fd ps sp ∧ mg x = some (.ref C) ∧ Binds K fd ps [] ∧ KBn K fd ps 1 ks (fun us ws => us ++ ws.reverse) (fun vs zs => vs ++ zs.reverse)
/-- a method's promise, its arguments named -/
structure MtK (P : Program) (w : World) (K : PySem.W.Frag) (mg : Str → Option Value) (base : Heap) (C : Addr) (k : Nat) (m : Str) (ps ks : List Str) (sp : Sp) : Prop where
  ex : ∃ (f : Addr) (fd : FuncData), FnOk P w K mg base CX0 k f fd ps sp ∧ Meth K C m f ∧ KBn K fd ps 1 ks (fun us ws => us ++ ws) (fun vs zs => vs ++ zs)
def tMethK (C : Addr) (m : Str) (n : Nat) (sp : Sp) (ta : TE) (tk : TA) : TE := fun σ H Q => ta σ H fun x H1 => ∃ a dx fs, x = .ref a ∧ H1 a = some (.ins C dx fs) ∧ fs.lookup m = none ∧ tk σ H1 fun zs H2 => zs.length = n ∧ sp (.ref a :: zs) H2 Q E0
section
variable {X : Cx} {k : Nat} {C : Addr} {ps ks : List Str} {sp : Sp} {x m : Str} {p pos apos : Pos} {e o : Expr} {es : List Expr} {kws : List Keyword} {ta : TE} {t tk : TA} {pl : Sem Bool}
theorem pmk (c : Mks X.prog X.w X.K X.mg X.base C k x ps ks sp) (hr : Room (k + 1) X.A) (ha : PA X (e :: es) t) (hg : Gl X x := by rfl)
    (hdb : (x == ("__debug__" : Str)) = false := by decide) (he : starEach (e :: es) X.env = (false, eval e X.env) :: starEach es X.env := by rfl) (hpl : (backTo pos (starEach es X.env)).any (·.1) = false := by rfl) :
    PE X (.Call (.Name x p) (e :: es) [] pos) (tMake C sp [] E0 t) := by
  obtain ⟨f, fd, M, F, hm, b, _⟩ := c.ex
  exact pe_make M F hr hg hm b .nil pass0 ha hdb he hpl
theorem pmkK (c : Mks X.prog X.w X.K X.mg X.base C k x ps ks sp) (hr : Room (k + 1) X.A) (hkw : PK X kws tk) (hg : Gl X x := by rfl)
    (hall : (backToKw pos (keywordEach kws X.env)).all (·.1.isSome) = true := by rfl) (hks : (backToKw pos (keywordEach kws X.env)).filterMap (·.1) = ks := by rfl) (hdb : (x == ("__debug__" : Str)) = false := by decide)
    (hpl : ((backTo pos (starEach [] X.env)).any (·.1) || (backToKw pos (keywordEach kws X.env)).any (·.1.isNone)) = false := by rfl) :
    PE X (.Call (.Name x p) [] kws pos) (tMakeK C 0 ks.length sp (fun vs zs => vs ++ zs.reverse) E0 tNil tk) := by
  obtain ⟨f, fd, M, F, hm, _, b⟩ := c.ex
  exact pe_makeK0 M F hr hg hm b pass0 hkw hall hks hdb hpl
theorem pmtK (c : MtK X.prog X.w X.K X.mg X.base C k m ps ks sp) (cl : Cls X.K C) (hr : Room k X.A) (he : PE X o ta) (hkw : PK X kws tk)
    (hall : (backToKw pos (keywordEach kws X.env)).all (·.1.isSome) = true := by rfl) (hks : (backToKw pos (keywordEach kws X.env)).filterMap (·.1) = ks := by rfl)
    (hpl : ((backTo pos (starEach [] X.env)).any (·.1) || (backToKw pos (keywordEach kws X.env)).any (·.1.isNone)) = false := by rfl)
    (ht : eval (.Call (.Attribute o m apos) [] kws pos) X.env = (do
      let ov ← eval o X.env
      standAt apos.atName
      let r ← holding [ov] (getMethod ov m pl)
      callWith pos r.1 r.2 (backTo pos (starEach [] X.env)) (backToKw pos (keywordEach kws X.env))) := by rfl) :
    PE X (.Call (.Attribute o m apos) [] kws pos) (tMethK C m ks.length sp ta tk) := by
  obtain ⟨f, fd, F, hm, b⟩ := c.ex
  refine ⟨fun pins s σ H Q I h => ?_⟩
  refine PySem.W.methodCall_KW (pl := pl) (thn (he.run pins s σ H _ I h) fun u s1 ⟨x, H1, I1, rx, a, dx, fs, ex, ea, l, q⟩ => ?_) ht
  subst ex
  obtain rfl : u = Value.ref a := rx
  refine getmeth_ok I1 ea cl hm l ?_
  refine PySem.W.callWith_KW0 (first := [.ref a]) (h₀ := X.base) I1.ok.mod.kin hm.kp hall ?_ hpl
  refine thn (hkw.run pos pins s1 σ H1 _ I1 q) fun ws s2 ⟨zs, H2, I2, rz, l2, q2⟩ => ⟨I2.kIn, ?_⟩
  rw [hks]
  exact run_fnN (us := [.ref a]) (vs := [.ref a]) F hr b pass0 I2 (.cons rfl .nil) rz rfl l2 q2
end
section
variable {B : Bs} {Γ : Ctx} {R : D → Prop} {Pre : List D → Prop} {Post : List D → D → Prop} {t : TA} {ta : TE}
theorem reps_rev {W : Wd} {H : Hp} : ∀ {vs : List V} {ds : List D}, Reps W H vs ds → Reps W H vs.reverse ds.reverse
  | _, _, .nil => .nil
  | _, _, .cons a r => by
    rw [List.reverse_cons, List.reverse_cons]
    exact (reps_rev r).app (.cons a .nil)
theorem we_makeK (h : WA B t Γ fun ds => ds.length = 2 ∧ Pre ds.reverse ∧ ∀ d, Post ds.reverse d → R d) : WE B (tMakeK B.W.C 0 2 (SpI B.W.K B.W.C Pre Post) (fun vs zs => vs ++ zs.reverse) E0 tNil t) Γ R := fun M σ H S Q q => h M σ H S _ fun vs H1 ds S1 x1 r ⟨hl, hp, k⟩ =>
  ⟨rfl, by rw [r.length, hl], make_core S1 (reps_rev r) hp fun v H2 d S2 x2 rd h2 => q v H2 d S2 (x1.trans x2) rd (k d h2)⟩
theorem we_methK {m : Str} {n : Nat} (hm : (m == "own_nodes" || m == "own_links" || m == "own_near") = false) (h : WE B ta Γ fun x => ∃ ns ls nr, x = .net ns ls nr ∧ WA B t Γ fun ds => ds.length = n ∧ Pre (x :: ds) ∧ ∀ d, Post (x :: ds) d → R d) :
    WE B (tMethK B.W.C m n (SpD B.W.K B.W.C Pre Post) ta t) Γ R := fun M σ H S Q q => h M σ H S _ fun v H1 x S1 x1 r ⟨ns, ls, nr, e, k⟩ => by
  subst e
  have r' := r
  cases r with
  | net h1 h2 h3 h4 =>
    refine ⟨_, _, _, rfl, (cut_some.mp h1).2, netFs_no _ _ _ hm, k M σ H1 S1 _ fun vs H2 ds S2 x2 rs ⟨hl, hp, k2⟩ => ⟨by rw [rs.length, hl], ?_⟩⟩
    exact ⟨B.W.pot, B.W.old, M, _, S2.fact, .cons (r'.mono x2.cut) rs, hp, fun v H3 d pt x3 rd hd => q v H3 d (S2.fx x3 pt) ((x1.trans x2).trans x3) rd (k2 d hd)⟩
end
end K11


/-! K11AE: == of two models (dicts). -/
namespace K11
open PySem PySem.Spec PyProof.Rows L2
local macro_rules | `(tactic| walk_at "w") => `(tactic| (first
  | (with_reducible refine ws_seq ?_)
  | (with_reducible refine ws_ret ?_)
  | (with_reducible refine ws_if ?_)
  | (with_reducible refine ws_asg ?_)
  | (with_reducible refine ws_break ?_)
  | (with_reducible refine ws_drop ?_)
  | (with_reducible refine we_var (by with_unfolding_all rfl) ?_)
  | (with_reducible refine we_int ?_)
  | (with_reducible refine we_str ?_)
  | (with_reducible refine we_bl ?_)
  | (with_reducible refine we_non ?_)
  | (with_reducible refine we_ty ?_)
  | (with_reducible refine we_cls ?_)
  | (with_reducible refine wa_cons ?_)
  | (with_reducible refine wa_nil ?_)
  | (with_reducible refine we_cb ?_)
  | (with_reducible refine vc_lenL ?_)
  | (with_reducible refine vc_lenT ?_)
  | (with_reducible refine v2_B0 ?_)
  | (with_reducible refine v2_I0 ?_)
  | (with_reducible refine we_call ?_)
  | (with_reducible refine we_op ?_)
  | (with_reducible refine we_tup ?_)
  | (with_reducible refine we_if ?_)
  | (with_reducible refine we_chain ?_)
  | (with_reducible refine wt_test ?_)
  | (with_reducible refine wt_B ?_)
  | (with_reducible refine wt_not ?_)
  | (with_reducible refine wt_or ?_)
  | (with_reducible refine wt_and ?_)))


inductive HitsD (K : PySem.W.Frag) (H : Hp) (ls : List (Key × V)) : List (Key × V) → Bool → Prop
  | nil : HitsD K H ls [] true
  | cons {k : Key} {v y : V} {r : List (Key × V)} {d e : PyData} {b : Bool} : valV ls k = some y → Dp K H v d → Dp K H y e → SeqAt.shaped d = true → SeqAt.shaped e = true → HitsD K H ls r b → HitsD K H ls ((k, v) :: r) (PyData.eqv d e && b)
def rEqM (K : PySem.W.Frag) : R2 := fun x y H Q => ∃ a b ks ls c, x = .ref a ∧ y = .ref b ∧ H a = some (.dK ks) ∧ H b = some (.dK ls) ∧ ks.length = ls.length ∧ HitsD K H ls ks c ∧ Q (.bl c) H
section
variable {X : Cx} {pins : List (Addr × Obj)} {σ : L2.St} {H : Hp} {s : Shared}
theorem hitsD_run (I : Inv X pins σ H s) {A : Around} (hu : A.units + 64 < cLine) {ls : List (Key × V)} {vb : List (Key × Value)} (rb : KV ls vb) {ks : List (Key × V)} {c : Bool} (h : HitsD X.K H ls ks c) :
    ∀ {va : List (Key × Value)}, KV ks va → PySem.W.KeqHitsP X.prog X.w A s vb va c := by
  induction h with
  | nil =>
    intro va ra
    unfold KV at ra
    cases ra
    exact .nil
  | @cons k v y r d e b hy hd he sd se _ ih =>
    intro va ra
    unfold KV at ra
    cases ra with
    | @cons _ q _ qs h t =>
      obtain ⟨h1, h2⟩ := h
      have rr : RelO (some y) (valueAt vb k) := by rw [← hy]; exact rb.val k
      obtain ⟨z, hz, rz⟩ := rr.some_of
      obtain ⟨key, u⟩ := q
      have h1' : k = key := h1
      subst h1'
      obtain ⟨as, r1⟩ := Dp.reads I d v u hd h2
      obtain ⟨bs, r2⟩ := Dp.reads I e y z he rz
      exact .hit hz (SeqAt.eqAt_reads d e A s u z as bs r1 r2 (SeqAt.canLay_of_shaped sd) (SeqAt.canLay_of_shaped se) (SeqAt.room_of_shaped sd hu)).eqP (ih (by unfold KV; exact t))
end
theorem op_eqM {X : Cx} (hu : X.A.units + 65 < cLine) : OpR X (compareOp .Eq) (rEqM X.K) := by
  intro pins s σ H x y v u Q I rx ry h
  obtain ⟨a, b, ks, ls, c, rfl, rfl, ha, hb, hl, hp, q⟩ := h
  cases (show v = Value.ref a from rx)
  cases (show u = Value.ref b from ry)
  obtain ⟨_, ya, va, ra, da⟩ := (show ObjOk X.prog X.w H s.heap a (.dK ks) from I.hok a _ ha)
  obtain ⟨_, yb, vb, rb, db⟩ := (show ObjOk X.prog X.w H s.heap b (.dK ls) from I.hok b _ hb)
  refine PySem.W.rcP_dicts (knd := mixKind X.prog X.w) (r := c) ya yb da db (by omega) (fun _ => hitsD_run I (A := X.A.in1) (by show X.A.units + 1 + 64 < cLine; omega) rb hp ra) _ _ ?_
  have e : va.length = vb.length := by rw [← ra.length, ← rb.length]; exact hl
  rw [show (va.length == vb.length && c) = c from by rw [e]; simp]
  exact ⟨.bl c, H, I, rfl, q⟩
section
variable {B : Bs} {R : D → Prop}
theorem v2_eqM {sp sp' : List Str} {ps ps' : List Lk} (m : okM sp ps) (m' : okM sp' ps') (q : R (.bl (decide (sp = sp' ∧ ps = ps')))) : V2 B (rEqM B.W.K) (modD sp ps) (modD sp' ps') R := fun M H v u r1 r2 _ _ _ Q k => by
  cases r1 with
  | dic h1 k1 =>
  cases k1 with
  | cons a1 k1 =>
  cases k1 with
  | cons a2 k1 =>
  cases k1
  cases r2 with
  | dic h2 k2 =>
  cases k2 with
  | cons b1 k2 =>
  cases k2 with
  | cons b2 k2 =>
  cases k2
  have oS : ∀ l : List Str, (∀ s ∈ l, nameOk s = true) → (D.lst (sS l)).ok 10 = true := fun l h => by
    show D.okAll 9 (sS l) = true
    exact ok_sS (n := 9) fun s hs => name_strOk (h s hs)
  have oP : ∀ l : List Lk, (∀ p ∈ l, nameOk p.1 = true ∧ nameOk p.2 = true) → (D.lst (dPs l)).ok 10 = true := fun l h => by
    show D.okAll 9 (dPs l) = true
    exact ok_dPs (n := 8) fun p hp => ⟨name_strOk (h p hp).1, name_strOk (h p hp).2⟩
  have s1 := oS sp m.2.2.1
  have s2 := oS sp' m'.2.2.1
  have p1 := oP ps m.2.2.2
  have p2 := oP ps' m'.2.2.2
  refine ⟨_, _, _, _, _, rfl, rfl, (cut_some.mp h1).2, (cut_some.mp h2).2, rfl, .cons (by rfl) (rep_dp s1 a1) (rep_dp s2 b1) (py_shaped (n := 10) (by decide) s1) (py_shaped (n := 10) (by decide) s2)
    (.cons (by rfl) (rep_dp p1 a2) (rep_dp p2 b2) (py_shaped (n := 10) (by decide) p1) (py_shaped (n := 10) (by decide) p2) .nil), ?_⟩
  have e1 := eqv_iff (.lst (sS sp)) (.lst (sS sp')) (nob_sS sp) (nob_sS sp')
  have e2 := eqv_iff (.lst (dPs ps)) (.lst (dPs ps')) (nob_dPs ps) (nob_dPs ps')
  have e : (PyData.eqv (D.lst (sS sp)).py (D.lst (sS sp')).py && (PyData.eqv (D.lst (dPs ps)).py (D.lst (dPs ps')).py && true)) = decide (sp = sp' ∧ ps = ps') := by
    rw [Bool.and_true, Bool.eq_iff_iff, Bool.and_eq_true, e1, e2, decide_eq_true_eq]
    constructor
    · rintro ⟨x, y⟩
      exact modD_inj (by unfold modD modL; rw [x, y])
    · rintro ⟨rfl, rfl⟩
      exact ⟨rfl, rfl⟩
  rw [e]
  exact k _ H _ (fun _ _ => rfl) (Same.refl H) (.bl _) q
end
end K11


/-! K11AF: _law_parts_right. -/
namespace K11
open PySem PySem.Spec PyProof.Rows L2
local macro_rules | `(tactic| walk_at "w") => `(tactic| (first
  | (with_reducible refine ws_seq ?_)
  | (with_reducible refine ws_ret ?_)
  | (with_reducible refine ws_if ?_)
  | (with_reducible refine ws_asg ?_)
  | (with_reducible refine ws_break ?_)
  | (with_reducible refine ws_drop ?_)
  | (with_reducible refine we_var (by with_unfolding_all rfl) ?_)
  | (with_reducible refine we_int ?_)
  | (with_reducible refine we_str ?_)
  | (with_reducible refine we_bl ?_)
  | (with_reducible refine we_non ?_)
  | (with_reducible refine we_ty ?_)
  | (with_reducible refine we_cls ?_)
  | (with_reducible refine wa_cons ?_)
  | (with_reducible refine wa_nil ?_)
  | (with_reducible refine we_cb ?_)
  | (with_reducible refine vc_lenL ?_)
  | (with_reducible refine vc_lenT ?_)
  | (with_reducible refine v2_B0 ?_)
  | (with_reducible refine v2_I0 ?_)
  | (with_reducible refine we_call ?_)
  | (with_reducible refine we_op ?_)
  | (with_reducible refine we_tup ?_)
  | (with_reducible refine we_if ?_)
  | (with_reducible refine we_chain ?_)
  | (with_reducible refine wt_test ?_)
  | (with_reducible refine wt_B ?_)
  | (with_reducible refine wt_not ?_)
  | (with_reducible refine wt_or ?_)
  | (with_reducible refine wt_and ?_)))


theorem Mdl.names {sp : List Str} {ps : List Lk} (m : Mdl sp ps) (h : sp.length ≤ 60) : Names sp := ⟨m.s1, h, m.sn, fun s hs => (m.sk s hs).1⟩
theorem Mdl.ords {sp : List Str} {ps : List Lk} (m : Mdl sp ps) : ps.map ordP = ps := by
  have h : ∀ l : List Lk, (∀ p ∈ l, ordP p = p) → l.map ordP = l := fun l => by
    induction l with
    | nil => intro _; rfl
    | cons p l ih =>
      intro k
      rw [List.map_cons, k p List.mem_cons_self, ih fun q hq => k q (List.mem_cons_of_mem _ hq)]
  exact h ps fun p hp => (m.pk p hp).1
theorem Mdl.links {sp : List Str} {ps : List Lk} (m : Mdl sp ps) (h : ps.length ≤ 120) : Links sp ps := ⟨h, by rw [m.ords]; exact m.pn, fun p hp => ⟨(m.sk _ (m.pk p hp).2.2.1).1, (m.sk _ (m.pk p hp).2.2.2).1, (m.pk p hp).2⟩⟩
theorem Mdl.made {sp : List Str} {ps : List Lk} (m : Mdl sp ps) : D.net (srtS sp) (srtP (ps.map ordP)) (nearOf (srtS sp) (srtP (ps.map ordP))) = mdN sp ps := by
  rw [m.ords, m.so, m.po]; rfl
theorem part_eq {sp sp' : List Str} {ps ps' : List Lk} (m : MdB sp ps) (m' : MdB sp' ps') : partB sp ps (nearOf sp' ps') = partM sp ps sp' ps' := by
  unfold partB partM
  rw [near_keys]
  congr 1
  rw [Bool.eq_iff_iff, List.all_eq_true, List.all_eq_true]
  refine forall_congr' fun p => forall_congr' fun hp => ?_
  rw [decide_eq_true_eq]
  exact (has_iff m' p.1 p.2).trans (by rw [show (p.1, p.2) = p from rfl, (m.pk p hp).1])
theorem MdB.okM {sp : List Str} {ps : List Lk} (m : MdB sp ps) : okM sp ps := ⟨by have := m.b1; omega, by have := m.b2; omega, m.ok⟩
theorem MdB.sm {sp : List Str} {ps : List Lk} (m : MdB sp ps) : NetSm sp ps := ⟨by have := m.b1; omega, by have := m.b2; omega, m.ok.2⟩
theorem rp_four (a b c d : Bool) : Rp [.bl a, .bl b, .bl c, .bl d] := ⟨rfl, rfl, by show 0 + 1 + (0 + 1 + (0 + 1 + (0 + 1 + 0))) ≤ 1000000; decide⟩
section
variable {P : Program} {w : World} {K : PySem.W.Frag} {mg : Str → Option Value} {base : Heap} {C : Addr}
abbrev sPartsRight : Stmt := top 53
abbrev nPartsRight : List Str := ["_law_pot_here", "_law_made", "_law_model", "_law_later", "_law_turn", "_law_beside", "_law_told", "_law_same"]
theorem scPartsRight : FnScope nPartsRight ["_law_pot_here", "_law_made", "_law_model"] (defScope sPartsRight) := ⟨rfl, rfl, rfl, by decide +kernel, rfl, by decide +kernel, by decide +kernel⟩
def preParts : List D → Prop := fun ds => ∃ sp ps, ds = [.pot, mdN sp ps, modD sp ps] ∧ Mdl sp ps ∧ sp.length ≤ 36 ∧ ps.length ≤ 106
abbrev KNet (P : Program) (w : World) (K : PySem.W.Frag) (mg : Str → Option Value) (base : Heap) (C : Addr) : Prop := Mks P w K mg base C 4 "Net" ["self", "nodes", "links"] ["links", "nodes"] (SpI K C preInit postInit)
theorem gcl_parts_right (F : Fd K mg "_law_parts_right" ["_law_pot_here", "_law_made", "_law_model"] sPartsRight) (M : Mb mg) (T : NetT K C) (c_draw : CDraw P w K mg base C)
    (c_changed : Cl P w K mg base 3 "_law_changed" ["_law_pot_here", "_law_model"] (SpD K C preChanged postChanged)) (k_net : KNet P w K mg base C) (m_is_part_of : Mt P w K mg base C 4 "is_part_of" ["self", "other"] (SpD K C prePart postPart))
    (mk_is_part_of : MtK P w K mg base C 4 "is_part_of" ["self", "other"] ["other"] (SpD K C prePart postPart)) (m_eq : Mt P w K mg base C 1 "__eq__" ["self", "other"] (SpD K C preEq postEq))
    (c_is_part : Cl P w K mg base 1 "_law_is_part" ["_law_model", "_law_more"] (SpD K C preIsPart postIsPart)) :
    GCl P w K mg base 6 "_law_parts_right" ["_law_pot_here", "_law_made", "_law_model"] (SpD K C preParts fun _ d => d = .bl true) := F.gcl fun f fd F => by
  refine gfnD F scPartsRight (fun ds ⟨_, _, e, _⟩ => by rw [e]; rfl) fun cdv A outer s H E hr hg => ?_
  have hu64 := hu65 hr
  have hu := hu_of hr
  refine ⟨_, (pss_cons (ps_set (i := 3) scPartsRight.nd rfl (by first | exact Or.inl rfl | exact Or.inr rfl) (pv 2))
    (pss_cons (ps_for PassesOwn.never rfl (pi_range1 (by rfl) M.range (pa_cons pe_int pa_nil)) (pg_name (i := 4) scPartsRight.nd rfl (by first | exact Or.inl rfl | exact Or.inr rfl)) (pss_cons (ps_set (i := 3) scPartsRight.nd rfl (by first | exact Or.inl rfl | exact Or.inr rfl) (pcl c_changed (hr.mono (by decide)) (pa_cons (pv 0) (pa_cons (pe_ifExp (pt_cmpR op_eq (pcl c_draw (hr.mono (by decide)) (pa_cons (pv 0) (pa_cons pe_int pa_nil))) pe_int (nomark _)) (pv 3) (pv 2)) pa_nil))))
    (pss_cons (ps_set (i := 5) scPartsRight.nd rfl (by first | exact Or.inl rfl | exact Or.inr rfl) (pmk k_net (hr.mono (by decide)) (pa_cons (pe_dget hu (pv 3) pe_str (fun _ _ => rfl)) (pa_cons (pe_dget hu (pv 3) pe_str (fun _ _ => rfl)) pa_nil))))
    (pss_cons (ps_set (i := 6) scPartsRight.nd rfl (by first | exact Or.inl rfl | exact Or.inr rfl) (pe_lst (pa_cons (pmt m_is_part_of T.cl (hr.mono (by decide)) (pv 1) (pa_cons (pv 5) pa_nil)) (pa_cons (pmtK mk_is_part_of T.cl (hr.mono (by decide)) (pv 5) (pk_cons (pv 1) pk_nil)) (pa_cons (pe_cmpR (op_eqN m_eq (hr.mono (by decide))) (pv 1) (pv 5) (nomark _)) (pa_cons (pe_cmpR (op_neN m_eq (hr.mono (by decide)) T.hm T.hne) (pv 1) (pv 5) (nomark _)) pa_nil))))))
    (pss_cons (ps_set (i := 7) scPartsRight.nd rfl (by first | exact Or.inl rfl | exact Or.inr rfl) (pe_cmpR (op_eqM hu64) (pv 3) (pv 2) (nomark _)))
    (pss_one (ps_if (pt_cmpR op_ne (pe_callB (call_reprD hg hu64) (by rfl) M.repr (by decide +kernel) (pa_cons (pv 6) pa_nil)) (pe_callB (call_reprD hg hu64) (by rfl) M.repr (by decide +kernel) (pa_cons (pe_lst (pa_cons (pcl c_is_part (hr.mono (by decide)) (pa_cons (pv 2) (pa_cons (pv 3) pa_nil))) (pa_cons (pcl c_is_part (hr.mono (by decide)) (pa_cons (pv 3) (pa_cons (pv 2) pa_nil))) (pa_cons (pv 7) (pa_cons (pe_not (pv 7)) pa_nil))))) pa_nil)) (nomark _)) (pss_one (ps_ret pe_bl)) pss_nil)))))))
    (pss_one (ps_ret (pe_cmpR op_is_bl (pmt m_is_part_of T.cl (hr.mono (by decide)) (pv 1) (pa_cons (pv 1) pa_nil)) pe_bl (nomark _)))))), fun pot old M H ds hp => ?_⟩
  obtain ⟨sp, ps, rfl, m, b1, b2⟩ := hp
  have mb : MdB sp ps := ⟨m, by omega, by omega⟩
  dsimp only [cxOf, Cx.nox, Cx.wish]
  show WS _ _ [.da .pot, .da (mdN sp ps), .da (modD sp ps), .no, .no, .no, .no, .no] _
  refine ws_seq (ws_asg (we_var rfl (wg_name ?_)))
  show WS _ _ [.da .pot, .da (mdN sp ps), .da (modD sp ps), .da (modD sp ps), .no, .no, .no, .no] _
  refine ws_seq (ws_for (wi_range1 ?_))
  repeat (walk_at "w")
  refine ⟨4, rfl, by decide, by decide, fun i Γ1 => ∃ sp1 ps1 e4 e5 e6 e7, Γ1 = [.da .pot, .da (mdN sp ps), .da (modD sp ps), .da (modD sp1 ps1), e4, e5, e6, e7] ∧ Mdl sp1 ps1 ∧ sp1.length ≤ 36 + i ∧ ps1.length ≤ 106 + i, ⟨sp, ps, _, _, _, _, rfl, m, b1, b2⟩, ?_, ?_⟩
  · rintro i d Γ1 hd ⟨sp1, ps1, e4, e5, e6, e7, rfl, m1, c1, c2⟩
    have hi : i < 4 := by
      have := (List.getElem?_eq_some_iff.mp hd).1
      rw [intsD_len] at this
      exact this
    refine wg_name ?_
    show WS _ _ [.da .pot, .da (mdN sp ps), .da (modD sp ps), .da (modD sp1 ps1), .da d, e5, e6, e7] _
    refine ws_seq (ws_asg (we_call (wa_cons (we_var rfl (wa_cons (WE.imp (R := fun d => ∃ sp2 ps2, d = modD sp2 ps2 ∧ Mdl sp2 ps2 ∧ sp2.length ≤ 36 + i ∧ ps2.length ≤ 106 + i) (we_if ?_) ?_))))))
    · repeat (walk_at "w")
      refine ⟨⟨2, rfl, by omega, by omega⟩, fun d hd => ?_⟩
      obtain ⟨t, rfl, t0, t1⟩ := hd _ rfl
      repeat (walk_at "w")
      refine v2_eqII ⟨_, rfl, fun h => we_var rfl ⟨sp1, ps1, rfl, m1, c1, c2⟩, fun h => we_var rfl ⟨sp, ps, rfl, m, by omega, by omega⟩⟩
    rintro x ⟨sp2, ps2, rfl, m2, d1, d2⟩
    refine wa_nil ⟨⟨sp2, ps2, rfl, m2, by omega, by omega⟩, fun r hr => ?_⟩
    obtain ⟨sp', ps', rfl, m', f1, f2⟩ := hr _ _ rfl
    have mb' : MdB sp' ps' := ⟨m', by omega, by omega⟩
    refine wg_name ?_
    show WS _ _ [.da .pot, .da (mdN sp ps), .da (modD sp ps), .da (modD sp' ps'), .da d, e5, e6, e7] _
    -- beside
    refine ws_seq (ws_asg (we_make (dd := []) (fun _ _ => .nil) (wa_cons (we_dget (we_var rfl ⟨_, rfl, we_str ⟨_, _, rfl, mod_spots sp' ps', wa_cons (we_dget (we_var rfl ⟨_, rfl, we_str ⟨_, _, rfl, mod_pairs sp' ps', wa_nil ⟨⟨_, _, sp', ps', rfl, rfl, rfl, m'.names (by omega), m'.links (by omega)⟩, fun r hr => ?_⟩⟩⟩))⟩⟩)))))
    obtain rfl := (hr _ _ _ _ rfl rfl rfl).trans m'.made
    refine wg_name ?_
    show WS _ _ [.da .pot, .da (mdN sp ps), .da (modD sp ps), .da (modD sp' ps'), .da d, .da (mdN sp' ps'), e6, e7] _
    -- told
    refine ws_seq (ws_asg (WO.we (wo_lst (wa_cons (we_meth (by decide +kernel) (we_var rfl ⟨_, _, _, rfl, wa_cons (we_var rfl (wa_nil ⟨⟨_, _, _, _, _, _, rfl, mb.sm⟩, fun r hr => ?_⟩))⟩))))))
    obtain rfl := hr _ _ _ _ _ _ rfl
    refine wa_cons (we_methK (by decide +kernel) (we_var rfl ⟨_, _, _, rfl, wa_cons (we_var rfl (wa_nil ⟨rfl, ⟨_, _, _, _, _, _, rfl, mb'.sm⟩, fun r hr => ?_⟩))⟩))
    obtain rfl := hr _ _ _ _ _ _ rfl
    have pe : ∃ b, eqB sp ps (mdN sp' ps') = b ∧ b = decide (sp' = sp ∧ ps' = ps) := ⟨_, rfl, by
      show (decide (sp = sp') && decide (ps = ps')) = _
      rw [Bool.eq_iff_iff, Bool.and_eq_true, decide_eq_true_eq, decide_eq_true_eq, decide_eq_true_eq]
      exact ⟨fun h => ⟨h.1.symm, h.2.symm⟩, fun h => ⟨h.1.symm, h.2.symm⟩⟩⟩
    obtain ⟨b, he, hb⟩ := pe
    refine wa_cons (we_eqN T (we_var rfl (we_var rfl ⟨⟨_, _, _, rfl⟩, rfl, ⟨_, _, _, _, rfl, rfl, mb.ok, fun _ _ _ e => by cases e; exact mb'.ok⟩, fun r hr => ⟨b, by rw [hr _ _ _ _ rfl, he], ?_⟩⟩)))
    refine wa_cons (we_eqN T (we_var rfl (we_var rfl ⟨⟨_, _, _, rfl⟩, rfl, ⟨_, _, _, _, rfl, rfl, mb.ok, fun _ _ _ e => by cases e; exact mb'.ok⟩, fun r hr => ⟨b, by rw [hr _ _ _ _ rfl, he], ?_⟩⟩)))
    refine wa_nil ⟨by show (4 : Nat) ≤ 1000; decide, wg_name ?_⟩
    rw [part_eq mb mb', part_eq mb' mb]
    show WS _ _ [.da .pot, .da (mdN sp ps), .da (modD sp ps), .da (modD sp' ps'), .da d, .da (mdN sp' ps'), .da (.lst [.bl (partM sp ps sp' ps'), .bl (partM sp' ps' sp ps), .bl b, .bl (!b)]), e7] _
    refine ws_seq (ws_asg (we_op (we_var rfl (we_var rfl (v2_eqM mb'.okM mb.okM (wg_name ?_))))))
    rw [← hb]
    show WS _ _ [.da .pot, .da (mdN sp ps), .da (modD sp ps), .da (modD sp' ps'), .da d, .da (mdN sp' ps'), .da (.lst [.bl (partM sp ps sp' ps'), .bl (partM sp' ps' sp ps), .bl b, .bl (!b)]), .da (.bl b)] _
    refine ws_if (wt_test (we_op (we_cb (wa_cons (we_var rfl (wa_nil (vc_reprL (rp_four _ _ _ _) (we_cb (wa_cons (WO.we (wo_lst ?_)))))))))))
    repeat (walk_at "w")
    refine ⟨⟨_, _, _, _, rfl, mb.okM, mb'.okM⟩, fun r hr => ?_⟩
    obtain rfl := hr _ _ _ _ rfl
    repeat (walk_at "w")
    refine ⟨⟨_, _, _, _, rfl, mb'.okM, mb.okM⟩, fun r hr => ?_⟩
    obtain rfl := hr _ _ _ _ rfl
    repeat (walk_at "w")
    refine we_notV (we_var rfl ⟨_, rfl, wa_nil ⟨by show (4 : Nat) ≤ 1000; decide, wa_nil (vc_reprL (rp_four _ _ _ _) (v2_neSS ⟨_, rfl, fun h => ?_, fun _ => ws_next ⟨sp', ps', _, _, _, _, rfl, m', by omega, by omega⟩⟩))⟩⟩)
    simp at h
  · rintro Γ1 ⟨sp1, ps1, e4, e5, e6, e7, rfl, _, _, _⟩
    refine ws_ret (we_op (we_meth (by decide +kernel) (we_var rfl ⟨_, _, _, rfl, wa_cons (we_var rfl (wa_nil ⟨⟨_, _, _, _, _, _, rfl, mb.sm⟩, fun r hr => ?_⟩))⟩)))
    obtain rfl := hr _ _ _ _ _ _ rfl
    rw [part_eq mb mb]
    refine we_bl (v2_isB ?_)
    have e : partM sp ps sp ps = true := by
      unfold partM
      simp
    rw [e]
    rfl
end
end K11


/-! K11AG: a net made of own lists; own results of methods called with keywords; Net(nodes). -/
namespace K11
open PySem PySem.Spec PyProof.Rows L2
local macro_rules | `(tactic| walk_at "w") => `(tactic| (first
  | (with_reducible refine ws_seq ?_)
  | (with_reducible refine ws_ret ?_)
  | (with_reducible refine ws_if ?_)
  | (with_reducible refine ws_asg ?_)
  | (with_reducible refine ws_break ?_)
  | (with_reducible refine ws_drop ?_)
  | (with_reducible refine we_var (by with_unfolding_all rfl) ?_)
  | (with_reducible refine we_int ?_)
  | (with_reducible refine we_str ?_)
  | (with_reducible refine we_bl ?_)
  | (with_reducible refine we_non ?_)
  | (with_reducible refine we_ty ?_)
  | (with_reducible refine we_cls ?_)
  | (with_reducible refine wa_cons ?_)
  | (with_reducible refine wa_nil ?_)
  | (with_reducible refine we_cb ?_)
  | (with_reducible refine vc_lenL ?_)
  | (with_reducible refine vc_lenT ?_)
  | (with_reducible refine v2_B0 ?_)
  | (with_reducible refine v2_I0 ?_)
  | (with_reducible refine we_call ?_)
  | (with_reducible refine we_op ?_)
  | (with_reducible refine we_tup ?_)
  | (with_reducible refine we_if ?_)
  | (with_reducible refine we_chain ?_)
  | (with_reducible refine wt_test ?_)
  | (with_reducible refine wt_B ?_)
  | (with_reducible refine wt_not ?_)
  | (with_reducible refine wt_or ?_)
  | (with_reducible refine wt_and ?_)))


theorem cut_backL {M : Addr → Prop} {H : Hp} {p : Addr} {zs : List V} (hp : H p = some (.lst zs)) : ∀ b o, (∀ xs, o ≠ .lst xs) → cut (fun b => M b ∧ b ≠ p) H b = some o → cut M H b = some o := fun b o ho h => by
  obtain ⟨h1, h2⟩ := cut_some.mp h
  refine cut_some.mpr ⟨fun z => h1 ⟨z, fun e => ?_⟩, h2⟩
  subst e
  rw [hp] at h2
  exact ho zs (Option.some.inj h2).symm
theorem flat_ofS : ∀ l : List Str, D.flatAll (sS l) = true
  | [] => rfl
  | s :: l => by
    show (true && D.flatAll (sS l)) = true
    rw [flat_ofS l]; rfl
theorem flat_ofP : ∀ l : List Lk, D.flatAll (dPs l) = true
  | [] => rfl
  | s :: l => by
    show (true && D.flatAll (dPs l)) = true
    rw [flat_ofP l]; rfl
theorem repK_flat {W : Wd} {H H' : Hp} (e : ∀ b xs, H b = some (.tup xs) → H' b = some (.tup xs)) : ∀ {nr : List (Str × List Str)} {kvs : List (Key × V)}, RepK W H kvs (nearD nr) → RepK W H' kvs (nearD nr)
  | [], _, r => by
    cases r
    exact .nil
  | p :: nr, _, r => by
    cases r with
    | cons h r => exact .cons (Rep.flat e (show D.flatAll (sS p.2) = true from flat_ofS _) h) (repK_flat e r)
theorem net_back {W : Wd} {M : Addr → Prop} {H : Hp} {p : Addr} {zs : List V} {v : V} {ns : List Str} {ls : List Lk} {nr : List (Str × List Str)} (hp : H p = some (.lst zs)) (r : Rep W (cut (fun b => M b ∧ b ≠ p) H) v (.net ns ls nr)) : Rep W (cut M H) v (.net ns ls nr) := by
  have e := cut_backL (M := M) hp
  have e2 : ∀ b xs, cut (fun b => M b ∧ b ≠ p) H b = some (.tup xs) → cut M H b = some (.tup xs) := fun b xs h => e b _ (fun _ z => by cases z) h
  cases r with
  | net h1 h2 h3 h4 =>
    refine .net (e _ _ (fun _ z => by cases z) h1) (Rep.flat e2 (show D.flatAll (sS ns) = true from flat_ofS _) h2) (Rep.flat e2 (show D.flatAll (dPs ls) = true from flat_ofP _) h3) ?_
    cases h4 with
    | dic g r => exact .dic (e _ _ (fun _ z => by cases z) g) (repK_flat e2 r)
section
variable {B : Bs} {Γ : Ctx} {R : D → Prop} {te : TE}
theorem seeN {i : Nat} {l : List D} (hi : Γ[i]? = some (.ow l)) (k : WE B te (Γ.set i (.da (.lst l))) fun x => (∃ ns ls nr, x = .net ns ls nr) ∧ R x) : WE B te Γ R := fun M σ H S Q q => by
  obtain ⟨p, xs, e1, o, h1, r⟩ := S.ent i _ hi
  obtain ⟨S', sm⟩ := S.rel (d0 := .lst l) hi rfl (join_some e1) o (.lst (cut_some.mpr ⟨fun z => z.2 rfl, h1⟩) (r.mono (cut_sub fun b z => z.1)))
  refine k _ σ H S' Q fun v H' x S2 fx r ⟨⟨ns, ls, nr, ex⟩, hr⟩ => ?_
  subst ex
  have hp' := fx.ext p _ (fun z => z.2 rfl) h1
  have fy := Fx.unrel h1 fx
  exact q v H' _ (S.fx fy S2.pt) fy (net_back hp' r) hr
variable {Pre : List D → Prop} {PostO : List D → List D → Prop} {ta : TE} {t : TA}
theorem wo_methK {m : Str} {n : Nat} {R : List D → Prop} (hm : (m == "own_nodes" || m == "own_links" || m == "own_near") = false) (h : WE B ta Γ fun x => ∃ ns ls nr, x = .net ns ls nr ∧ WA B t Γ fun ds => ds.length = n ∧ Pre (x :: ds) ∧ ∀ d, PostO (x :: ds) d → R d) :
    WO B (tMethK B.W.C m n (SpO B.W.K B.W.C Pre PostO) ta t) Γ R := fun M σ H S Q q => h M σ H S _ fun v H1 x S1 x1 r ⟨ns, ls, nr, e, k⟩ => by
  subst e
  have r' := r
  cases r with
  | net h1 h2 h3 h4 =>
    refine ⟨_, _, _, rfl, (cut_some.mp h1).2, netFs_no _ _ _ hm, k M σ H1 S1 _ fun vs H2 ds S2 x2 rs ⟨hl, hp, k2⟩ => ⟨by rw [rs.length, hl], ?_⟩⟩
    exact ⟨B.W.pot, B.W.old, M, _, S2.fact, .cons (r'.mono x2.cut) rs, hp, fun p xs H3 l pt x3 f hq rd hd => q p xs H3 l (S2.fx x3 pt) ((x1.trans x2).trans x3) (fresh_ext S2 (x1.trans x2) f) hq rd (k2 l hd)⟩
end
end K11


/-! K11AH: Net(nodes), the default links. -/
namespace K11
open PySem PySem.Spec PyProof.Rows L2
local macro_rules | `(tactic| walk_at "w") => `(tactic| (first
  | (with_reducible refine ws_seq ?_)
  | (with_reducible refine ws_ret ?_)
  | (with_reducible refine ws_if ?_)
  | (with_reducible refine ws_asg ?_)
  | (with_reducible refine ws_break ?_)
  | (with_reducible refine ws_drop ?_)
  | (with_reducible refine we_var (by with_unfolding_all rfl) ?_)
  | (with_reducible refine we_int ?_)
  | (with_reducible refine we_str ?_)
  | (with_reducible refine we_bl ?_)
  | (with_reducible refine we_non ?_)
  | (with_reducible refine we_ty ?_)
  | (with_reducible refine we_cls ?_)
  | (with_reducible refine wa_cons ?_)
  | (with_reducible refine wa_nil ?_)
  | (with_reducible refine we_cb ?_)
  | (with_reducible refine vc_lenL ?_)
  | (with_reducible refine vc_lenT ?_)
  | (with_reducible refine v2_B0 ?_)
  | (with_reducible refine v2_I0 ?_)
  | (with_reducible refine we_call ?_)
  | (with_reducible refine we_op ?_)
  | (with_reducible refine we_tup ?_)
  | (with_reducible refine we_if ?_)
  | (with_reducible refine we_chain ?_)
  | (with_reducible refine wt_test ?_)
  | (with_reducible refine wt_B ?_)
  | (with_reducible refine wt_not ?_)
  | (with_reducible refine wt_or ?_)
  | (with_reducible refine wt_and ?_)))


/-- Net(..) with a default () -/
structure Mkd (P : Program) (w : World) (K : PySem.W.Frag) (mg : Str → Option Value) (base : Heap) (C : Addr) (k : Nat) (x : Str) (ps : List Str) (sp : Sp) : Prop where
  ex : ∃ (f : Addr) (fd : FuncData) (e : Addr), Mk K C f ∧ FnOk P w K mg base CX0 k f fd ps sp ∧ mg x = some (.ref C) ∧ Binds K fd ps [.ref e] ∧ SqT K (fun _ => none) e []
/-- the default's data -/
def tMakeE (K : PySem.W.Frag) (C : Addr) (sp : Sp) (t : TA) : TE := fun σ H Q => ∀ e, SqT K (fun _ => none) e [] → tMake C sp [.ref e] E0 t σ H Q
theorem vals_one (a : Addr) : Vals [V.ref a] [Value.ref a] := .cons rfl .nil
section
variable {X : Cx} {k : Nat} {C : Addr} {ps : List Str} {sp : Sp} {x : Str} {p pos : Pos} {e : Expr} {es : List Expr} {t : TA}
theorem pmk1 (c : Mkd X.prog X.w X.K X.mg X.base C k x ps sp) (hr : Room (k + 1) X.A) (ha : PA X (e :: es) t) (hg : Gl X x := by rfl)
    (hdb : (x == ("__debug__" : Str)) = false := by decide) (he : starEach (e :: es) X.env = (false, eval e X.env) :: starEach es X.env := by rfl) (hpl : (backTo pos (starEach es X.env)).any (·.1) = false := by rfl) :
    PE X (.Call (.Name x p) (e :: es) [] pos) (tMakeE X.K C sp t) := by
  obtain ⟨f, fd, a, M, F, hm, b, hs⟩ := c.ex
  have z : PE X (.Call (.Name x p) (e :: es) [] pos) (tMake C sp [.ref a] E0 t) := pe_make M F hr hg hm b (vals_one a) pass0 ha hdb he hpl
  refine ⟨fun pins s σ H Q I h => ?_⟩
  exact z.run pins s σ H Q I (h a hs)
end
section
variable {B : Bs} {Γ : Ctx} {R : D → Prop} {Pre : List D → Prop} {Post : List D → D → Prop} {t : TA}
theorem we_makeE (h : WA B t Γ fun ds => Pre (ds ++ [.tup []]) ∧ ∀ d, Post (ds ++ [.tup []]) d → R d) : WE B (tMakeE B.W.K B.W.C (SpI B.W.K B.W.C Pre Post) t) Γ R := fun M σ H S Q q e he => by
  have hd : ∀ M' H', Reps B.W (cut M' H') [V.ref e] [D.tup []] := fun M' H' => .cons (.tup (xs := []) (.inr ⟨rfl, he⟩) .nil) .nil
  exact we_make (dd := [.tup []]) hd h M σ H S Q q
end
/-- == with a net on the left, in a comprehension -/
theorem op_eqNK {X : Cx} {K : PySem.W.Frag} {C : Addr} {k : Nat} {ps : List Str} {sp : Sp} (hK : X.K = K) (c : Mt X.prog X.w X.K X.mg X.base C k "__eq__" ps sp) (hr : Room k X.A) : OpR X (compareOp .Eq) (rEqN K C sp false) := hK ▸ op_eqN c hr
theorem srtS_of {l l' : List Str} (h : l.Perm l') : srtS l = srtS l' := srtS_uniq ((srtS_perm l).trans h) (srtS_pw l)
theorem srtP_of {l l' : List Lk} (h : l.Perm l') : srtP l = srtP l' := srtP_uniq ((srtP_perm l).trans h) (srtP_pw l)
theorem Mdl.names' {sp l : List Str} {ps : List Lk} (m : Mdl sp ps) (b : sp.length ≤ 60) (h : l.Perm sp) : Names l := by
  have e := h.length_eq
  have s1 := m.s1
  exact ⟨by omega, by omega, h.nodup_iff.mpr m.sn, fun s hs => (m.sk s (h.mem_iff.mp hs)).1⟩
theorem Mdl.links' {sp l : List Str} {ps ls : List Lk} (m : Mdl sp ps) (b : ps.length ≤ 120) (h : l.Perm sp) (hl : (ls.map ordP).Perm (ps.map ordP)) (hm : ∀ p ∈ ls, p ∈ ps ∨ (p.2, p.1) ∈ ps) : Links l ls := by
  have e := hl.length_eq
  rw [List.length_map, List.length_map] at e
  have nd : (ps.map ordP).Nodup := by rw [m.ords]; exact m.pn
  refine ⟨by omega, hl.nodup_iff.mpr nd, fun p hp => ?_⟩
  rcases hm p hp with z | z
  · obtain ⟨_, ne, k1, k2⟩ := m.pk _ z
    exact ⟨(m.sk _ k1).1, (m.sk _ k2).1, ne, h.mem_iff.mpr k1, h.mem_iff.mpr k2⟩
  · obtain ⟨_, ne, k1, k2⟩ := m.pk _ z
    exact ⟨(m.sk _ k2).1, (m.sk _ k1).1, ne.symm, h.mem_iff.mpr k2, h.mem_iff.mpr k1⟩
theorem Mdl.made' {sp l : List Str} {ps ls : List Lk} (m : Mdl sp ps) (h : l.Perm sp) (hl : (ls.map ordP).Perm (ps.map ordP)) : D.net (srtS l) (srtP (ls.map ordP)) (nearOf (srtS l) (srtP (ls.map ordP))) = mdN sp ps := by
  rw [srtS_of h, srtP_of hl]; exact m.made
theorem Mdl.bare {sp : List Str} {ps : List Lk} (m : Mdl sp ps) : Mdl sp [] := ⟨m.s1, m.so, m.sn, m.sk, (srtP_uniq (List.Perm.refl _) .nil).symm, .nil, fun p h => (nomatch h)⟩
theorem eqB_self (sp : List Str) (ps : List Lk) : eqB sp ps (mdN sp ps) = true := by
  show (decide (sp = sp) && decide (ps = ps)) = true
  rw [decide_eq_true rfl, decide_eq_true rfl]; rfl
theorem pcsL_pos {sp : List Str} {ps : List Lk} (m : MdB sp ps) : 1 ≤ (pcsL sp ps).length := by
  have s1 := m.s1
  have so := m.so
  cases sp with
  | nil => cases s1
  | cons a r =>
    have pw : (a :: r).Pairwise fun x y => leS x y = true := so ▸ srtS_pw (a :: r)
    have h := pcS_head (ks := a :: r) (L := a :: r) (ps := ps) (a := a) (r := r) rfl pw List.mem_cons_self fun y hy _ => hy
    unfold pcsL
    rw [List.length_map]
    exact List.length_pos_of_mem (List.mem_filter.mpr ⟨List.mem_cons_self, decide_eq_true h⟩)
section
variable {B : Bs} {Γ : Ctx} {R : D → Prop} {i : Nat} {sp : List Str} {ps : List Lk}
theorem we_sp (h : Γ[i]? = some (.da (modD sp ps))) (q : R (.lst (sS sp))) : WE B (tDGet (tVar i) (tC (.str "spots"))) Γ R := we_dget (we_var h ⟨_, rfl, we_str ⟨_, _, rfl, mod_spots sp ps, q⟩⟩)
theorem we_pr (h : Γ[i]? = some (.da (modD sp ps))) (q : R (.lst (dPs ps))) : WE B (tDGet (tVar i) (tC (.str "pairs"))) Γ R := we_dget (we_var h ⟨_, rfl, we_str ⟨_, _, rfl, mod_pairs sp ps, q⟩⟩)
theorem we_sp0 {s : Str} (h : Γ[i]? = some (.da (modD sp ps))) (h0 : sp[0]? = some s) (q : R (.str s)) : WE B (tOp (rIxL B.W.K) (tDGet (tVar i) (tC (.str "spots"))) (tC (.int 0))) Γ R := by
  have l0 : 0 < sp.length := (List.getElem?_eq_some_iff.mp h0).1
  refine we_op (we_sp h (we_int (v2_ixLn (by decide) (by rw [sS_len]; omega) fun d hd => ?_)))
  have e : (sS sp)[0]? = some (.str s) := by
    show (sp.map D.str)[0]? = _
    rw [List.getElem?_map, h0]; rfl
  cases e.symm.trans hd
  exact q
theorem we_spm {s : Str} (h : Γ[i]? = some (.da (modD sp ps))) (h0 : sp[sp.length - 1]? = some s) (q : R (.str s)) : WE B (tOp (rIxL B.W.K) (tDGet (tVar i) (tC (.str "spots"))) (tUn (rU fun i => .int (-i)) (tC (.int 1)))) Γ R := by
  have l0 : sp.length - 1 < sp.length := (List.getElem?_eq_some_iff.mp h0).1
  refine we_op (we_sp h (we_un (we_int (v1_neg (v2_ixLm (by rw [sS_len]; omega) fun d hd => ?_)))))
  have e : (sS sp)[(sS sp).length - 1]? = some (.str s) := by
    rw [sS_len]
    show (sp.map D.str)[sp.length - 1]? = _
    rw [List.getElem?_map, h0]; rfl
  cases e.symm.trans hd
  exact q
end
end K11


/-! K11AI: _law_right. -/
namespace K11
open PySem PySem.Spec PyProof.Rows L2
local macro_rules | `(tactic| walk_at "w") => `(tactic| (first
  | (with_reducible refine ws_seq ?_)
  | (with_reducible refine ws_ret ?_)
  | (with_reducible refine ws_if ?_)
  | (with_reducible refine ws_asg ?_)
  | (with_reducible refine ws_break ?_)
  | (with_reducible refine ws_drop ?_)
  | (with_reducible refine we_var (by with_unfolding_all rfl) ?_)
  | (with_reducible refine we_int ?_)
  | (with_reducible refine we_str ?_)
  | (with_reducible refine we_bl ?_)
  | (with_reducible refine we_non ?_)
  | (with_reducible refine we_ty ?_)
  | (with_reducible refine we_cls ?_)
  | (with_reducible refine wa_cons ?_)
  | (with_reducible refine wa_nil ?_)
  | (with_reducible refine we_cb ?_)
  | (with_reducible refine vc_lenL ?_)
  | (with_reducible refine vc_lenT ?_)
  | (with_reducible refine v2_B0 ?_)
  | (with_reducible refine v2_I0 ?_)
  | (with_reducible refine we_call ?_)
  | (with_reducible refine we_op ?_)
  | (with_reducible refine we_tup ?_)
  | (with_reducible refine we_if ?_)
  | (with_reducible refine we_chain ?_)
  | (with_reducible refine wt_test ?_)
  | (with_reducible refine wt_B ?_)
  | (with_reducible refine wt_not ?_)
  | (with_reducible refine wt_or ?_)
  | (with_reducible refine wt_and ?_)))


section
variable {P : Program} {w : World} {K : PySem.W.Frag} {mg : Str → Option Value} {base : Heap} {C : Addr}
abbrev sRight : Stmt := top 54
abbrev nRight : List Str := ["_law_pot_here", "_law_model", "_law_made", "_law_again", "_law_first", "_law_spots", "_law_pairs", "_law_thing"]
theorem scRight : FnScope nRight ["_law_pot_here"] (defScope sRight) := ⟨rfl, rfl, rfl, by decide +kernel, rfl, by decide +kernel, by decide +kernel⟩
def preR : List D → Prop := fun ds => ds = [.pot]
abbrev CDrawn (P : Program) (w : World) (K : PySem.W.Frag) (mg : Str → Option Value) (base : Heap) (C : Addr) : Prop := Cl P w K mg base 4 "_law_drawn" ["_law_pot_here"] (SpD K C preR fun _ d => ModR 9 96 d)
abbrev KNet1 (P : Program) (w : World) (K : PySem.W.Frag) (mg : Str → Option Value) (base : Heap) (C : Addr) : Prop := Mkd P w K mg base C 4 "Net" ["self", "nodes", "links"] (SpI K C preInit postInit)
theorem gcl_right (F : Fd K mg "_law_right" ["_law_pot_here"] sRight) (M : Mb mg) (T : NetT K C) (c_drawn : CDrawn P w K mg base C) (c_mixed : CMixed P w K mg base C)
    (c_turned : Cl P w K mg base 3 "_law_turned" ["_law_pot_here", "_law_pairs"] (SpO K C preTurned postTurned)) (k_net : KNet P w K mg base C) (k_net1 : KNet1 P w K mg base C) (m_eq : Mt P w K mg base C 1 "__eq__" ["self", "other"] (SpD K C preEq postEq))
    (g_is : GCl P w K mg base 7 "_law_is" ["_law_made", "_law_model"] (SpD K C preIs fun _ d => d = .bl true)) (g_in_right : GCl P w K mg base 6 "_law_in_right" ["_law_pot_here", "_law_made", "_law_model"] (SpD K C preInR fun _ d => d = .bl true))
    (g_parts_right : GCl P w K mg base 6 "_law_parts_right" ["_law_pot_here", "_law_made", "_law_model"] (SpD K C preParts fun _ d => d = .bl true)) (g_repr : GMt P w K mg base C 1 "__repr__" ["self"] (SpD K C preRepr postRepr))
    (m_nodes : Mt P w K mg base C 1 "nodes" ["self"] (SpO K C preSelf postNodes)) (m_links : Mt P w K mg base C 1 "links" ["self"] (SpO K C preSelf postLinks)) (m_pieces : Mt P w K mg base C 2 "pieces" ["self"] (SpN K C preSelfP postPcs))
    (m_neighbours : Mt P w K mg base C 6 "neighbours" ["self", "node"] (SpO K C preNode postNb)) (m_piece_of : Mt P w K mg base C 6 "piece_of" ["self", "node"] (SpO K C prePieceOf postPieceOf))
    (mk_neighbours : MtK P w K mg base C 6 "neighbours" ["self", "node"] ["node"] (SpO K C preNode postNb)) (mk_piece_of : MtK P w K mg base C 6 "piece_of" ["self", "node"] ["node"] (SpO K C prePieceOf postPieceOf)) :
    GCl P w K mg base 8 "_law_right" ["_law_pot_here"] (SpD K C preR fun _ d => d = .bl true) := F.gcl fun f fd F => by
  refine gfnD F scRight (fun ds e => by rw [show ds = [.pot] from e]; rfl) fun cdv A outer s H E hr hg => ?_
  have hu64 := hu65 hr
  have hu := hu_of hr
  refine ⟨_, (pss_cons (ps_set (i := 1) scRight.nd rfl (by first | exact Or.inl rfl | exact Or.inr rfl) (pcl c_drawn (hr.mono (by decide)) (pa_cons (pv 0) pa_nil)))
    (pss_cons (ps_par (i := 5) (j := 6) (by rfl) scRight.nd rfl rfl (by decide) rfl rfl (pa_cons (pcl c_mixed (hr.mono (by decide)) (pa_cons (pv 0) (pa_cons (pe_dget hu (pv 1) pe_str (fun _ _ => rfl)) pa_nil))) (pa_cons (pcl c_turned (hr.mono (by decide)) (pa_cons (pv 0) (pa_cons (pe_dget hu (pv 1) pe_str (fun _ _ => rfl)) pa_nil))) pa_nil)) (by rfl))
    (pss_cons (ps_set (i := 2) scRight.nd rfl (by first | exact Or.inl rfl | exact Or.inr rfl) (pmk k_net (hr.mono (by decide)) (pa_cons (pv 5) (pa_cons (pv 6) pa_nil))))
    (pss_cons (ps_set (i := 3) scRight.nd rfl (by first | exact Or.inl rfl | exact Or.inr rfl) (pmkK k_net (hr.mono (by decide)) (pk_cons (pe_callTy call_tuple2 (by rfl) M.tuple (by decide +kernel) (pa_cons (pcl c_turned (hr.mono (by decide)) (pa_cons (pv 0) (pa_cons (pe_dget hu (pv 1) pe_str (fun _ _ => rfl)) pa_nil))) pa_nil)) (pk_cons (pe_callTy call_tuple2 (by rfl) M.tuple (by decide +kernel) (pa_cons (pcl c_mixed (hr.mono (by decide)) (pa_cons (pv 0) (pa_cons (pe_dget hu (pv 1) pe_str (fun _ _ => rfl)) pa_nil))) pa_nil)) pk_nil))))
    (pss_cons (ps_if (PW.pt (pw_or (pt_not (pt_val (pgcl g_is (hr.mono (by decide)) hg (pa_cons (pv 2) (pa_cons (pv 1) pa_nil))))) (pw_or (pt_not (pt_val (pgcl g_is (hr.mono (by decide)) hg (pa_cons (pv 3) (pa_cons (pv 1) pa_nil))))) (pw_or (pt_cmpR (op_neN m_eq (hr.mono (by decide)) T.hm T.hne) (pv 2) (pv 3) (nomark _)) (pw_or1 (pt_not (pt_cmpR (op_eqN m_eq (hr.mono (by decide))) (pv 2) (pv 3) (nomark _)))))))) (pss_one (ps_ret pe_bl)) pss_nil)
    (pss_cons (ps_expr (pe_bm PySem.F.plainAttrs_list PySem.F.slot_list_append PySem.F.type_list_append mt_append (pv 5) (pa_cons pe_str pa_nil)))
    (pss_cons (ps_expr (pe_bm0 PySem.F.plainAttrs_list PySem.F.slot_list_clear PySem.F.type_list_clear mt_clear (pv 6)))
    (pss_cons (ps_expr (pe_bm0 PySem.F.plainAttrs_list PySem.F.slot_list_clear PySem.F.type_list_clear mt_clear (pmt0 m_nodes T.cl (hr.mono (by decide)) (pv 2))))
    (pss_cons (ps_expr (pe_bm PySem.F.plainAttrs_list PySem.F.slot_list_append PySem.F.type_list_append mt_append (pmt0 m_links T.cl (hr.mono (by decide)) (pv 2)) (pa_cons pe_non pa_nil)))
    (pss_cons (ps_expr (pe_bm PySem.F.plainAttrs_list PySem.F.slot_list_append PySem.F.type_list_append mt_append (pe_ix ix_list (pmt0 m_pieces T.cl (hr.mono (by decide)) (pv 2)) pe_int (fun _ _ => rfl)) (pa_cons pe_str pa_nil)))
    (pss_cons (ps_expr (pe_bm0 PySem.F.plainAttrs_list PySem.F.slot_list_clear PySem.F.type_list_clear mt_clear (pmt0 m_pieces T.cl (hr.mono (by decide)) (pv 2))))
    (pss_cons (ps_expr (pe_bm PySem.F.plainAttrs_list PySem.F.slot_list_append PySem.F.type_list_append mt_append (pmt m_neighbours T.cl (hr.mono (by decide)) (pv 2) (pa_cons (pe_ix ix_list (pe_dget hu (pv 1) pe_str (fun _ _ => rfl)) pe_int (fun _ _ => rfl)) pa_nil)) (pa_cons pe_str pa_nil)))
    (pss_cons (ps_expr (pe_bm0 PySem.F.plainAttrs_list PySem.F.slot_list_clear PySem.F.type_list_clear mt_clear (pmt m_piece_of T.cl (hr.mono (by decide)) (pv 2) (pa_cons (pe_ix ix_list (pe_dget hu (pv 1) pe_str (fun _ _ => rfl)) (pe_un un_neg pe_int) (fun _ _ => rfl)) pa_nil))))
    (pss_cons (ps_if (PW.pt (pw_or (pt_not (pt_val (pgcl g_is (hr.mono (by decide)) hg (pa_cons (pv 2) (pa_cons (pv 1) pa_nil))))) (pw_or (pt_not (pt_val (pgcl g_in_right (hr.mono (by decide)) hg (pa_cons (pv 0) (pa_cons (pv 2) (pa_cons (pv 1) pa_nil)))))) (pw_or1 (pt_not (pt_val (pgcl g_parts_right (hr.mono (by decide)) hg (pa_cons (pv 0) (pa_cons (pv 2) (pa_cons (pv 1) pa_nil)))))))))) (pss_one (ps_ret pe_bl)) pss_nil)
    (pss_cons (ps_set (i := 4) scRight.nd rfl (by first | exact Or.inl rfl | exact Or.inr rfl) (pe_ix ix_list (pe_dget hu (pv 1) pe_str (fun _ _ => rfl)) pe_int (fun _ _ => rfl)))
    (pss_cons (ps_if (PW.pt (pw_or (pt_cmpR (op_neD hr.units) (pmtK mk_neighbours T.cl (hr.mono (by decide)) (pv 2) (pk_cons (pv 4) pk_nil)) (pmt m_neighbours T.cl (hr.mono (by decide)) (pv 2) (pa_cons (pv 4) pa_nil)) (nomark _)) (pw_or1 (pt_cmpR (op_neD hr.units) (pmtK mk_piece_of T.cl (hr.mono (by decide)) (pv 2) (pk_cons (pv 4) pk_nil)) (pmt m_piece_of T.cl (hr.mono (by decide)) (pv 2) (pa_cons (pv 4) pa_nil)) (nomark _))))) (pss_one (ps_ret pe_bl)) pss_nil)
    (pss_cons (ps_if (pt_val (pe_callB (cr_any rfl) (by rfl) M.any (by decide +kernel) (pa_cons (pe_lc (own := [("_law_thing", 7)]) (by rfl) scRight.nd (pi_list (pe_lst (pa_cons pe_non (pa_cons pe_int (pa_cons (pe_dget hu (pv 1) pe_str (fun _ _ => rfl)) (pa_cons (pe_dget hu (pv 1) pe_str (fun _ _ => rfl)) (pa_cons (pv 1) (pa_cons (pe_callB (call_reprN g_repr (hr.mono (by decide)) hg) (by rfl) M.repr (by decide +kernel) (pa_cons (pv 2) pa_nil)) (pa_cons (pv 4) pa_nil))))))))) (blkOk_by (N := nRight) (sc := defScope sRight) (by decide +kernel)) (fun _ _ _ _ _ => (pg_name (i := 7) scRight.nd rfl (by first | exact Or.inl rfl | exact Or.inr rfl))) (fun _ _ _ _ _ => pts_nil) (fun _ _ _ _ _ => (pe_cmpR (op_eqNK (K := K) rfl m_eq (hr.mono (by decide))) (pv 2) (pv 7) (nomark _)))) pa_nil))) (pss_one (ps_ret pe_bl)) pss_nil)
    (pss_one (ps_ret (pe_and (pe_cmpR (op_eqN m_eq (hr.mono (by decide))) (pmk1 k_net1 (hr.mono (by decide)) (pa_cons (pe_dget hu (pv 1) pe_str (fun _ _ => rfl)) pa_nil)) (pmk k_net (hr.mono (by decide)) (pa_cons (pe_dget hu (pv 1) pe_str (fun _ _ => rfl)) (pa_cons (pe_lst pa_nil) pa_nil))) (nomark _)) (pe_one (pgcl g_is (hr.mono (by decide)) hg (pa_cons (pv 2) (pa_cons (pv 1) pa_nil)))))))))))))))))))))))), fun pot old M H ds hp => ?_⟩
  obtain rfl : ds = [.pot] := hp
  dsimp only [cxOf, Cx.nox, Cx.wish]
  show WS _ _ [.da .pot, .no, .no, .no, .no, .no, .no, .no] _
  refine ws_seq (ws_asg (we_call (wa_cons (we_var rfl (wa_nil ⟨rfl, fun d hd => ?_⟩)))))
  obtain ⟨sp, ps, rfl, m, b1, b2⟩ := hd
  have mb : MdB sp ps := ⟨m, by omega, by omega⟩
  have W := mb.prs
  obtain ⟨o1, o2⟩ := mb.ok
  have s1 := m.s1
  have isr : preIs [mdN sp ps, modD sp ps] := ⟨sp, ps, rfl, mb⟩
  have peq : preEq [mdN sp ps, mdN sp ps] := ⟨_, _, _, _, rfl, rfl, mb.ok, fun _ _ _ e => by cases e; exact mb.ok⟩
  refine wg_name ?_
  show WS _ _ [.da .pot, .da (modD sp ps), .no, .no, .no, .no, .no, .no] _
  refine ws_seq (ws_par2 (wf_ow (wo_call (wa_cons (we_var rfl (wa_cons (we_sp rfl (wa_nil ⟨⟨_, rfl, by rw [sS_len]; omega⟩, fun r hr => ?_⟩))))))))
  obtain ⟨l1, rfl, p1⟩ := perm_map (f := D.str) (hr _ rfl) (l := sp) rfl
  refine wf_ow (wo_call (wa_cons (we_var rfl (wa_cons (we_pr rfl (wa_nil ⟨⟨_, rfl, by omega⟩, fun r hr => ?_⟩))))))
  obtain ⟨t1, rfl, q1, q1m⟩ := hr _ rfl
  show WS _ _ [.da .pot, .da (modD sp ps), .no, .no, .no, .ow (sS l1), .ow (dPs t1), .no] _
  have nb1 : sp.length ≤ 60 := by omega
  have nb2 : ps.length ≤ 120 := by omega
  have t1l : t1.length ≤ 96 := by
    have e := q1.length_eq
    rw [List.length_map, List.length_map] at e
    omega
  refine ws_seq (ws_asg (seeN (i := 5) rfl (seeN (i := 6) rfl (we_make (dd := []) (fun _ _ => .nil) (wa_cons (we_var rfl (wa_cons (we_var rfl (wa_nil ⟨⟨_, _, l1, t1, rfl, rfl, rfl, m.names' nb1 p1, m.links' nb2 p1 q1 q1m⟩, fun r hr => ?_⟩)))))))))
  obtain rfl := (hr _ _ _ _ rfl rfl rfl).trans (m.made' p1 q1)
  refine ⟨⟨_, _, _, rfl⟩, ⟨_, _, _, rfl⟩, wg_name ?_⟩
  show WS _ _ [.da .pot, .da (modD sp ps), .da (mdN sp ps), .no, .no, .ow (sS l1), .ow (dPs t1), .no] _
  refine ws_seq (ws_asg (we_makeK (wa_cons (we_cb (wa_cons (WO.we (wo_call (wa_cons (we_var rfl (wa_cons (we_pr rfl (wa_nil ⟨⟨_, rfl, by omega⟩, fun r hr => ?_⟩))))))))))))
  obtain ⟨t2, rfl, q2, q2m⟩ := hr _ rfl
  refine wa_nil (vc_tupleL (wa_cons (we_cb (wa_cons (WO.we (wo_call (wa_cons (we_var rfl (wa_cons (we_sp rfl (wa_nil ⟨⟨_, rfl, by rw [sS_len]; omega⟩, fun r hr => ?_⟩)))))))))))
  obtain ⟨l2, rfl, p2⟩ := perm_map (f := D.str) (hr _ rfl) (l := sp) rfl
  refine wa_nil (vc_tupleL (wa_nil ⟨rfl, ⟨_, _, l2, t2, rfl, rfl, rfl, m.names' nb1 p2, m.links' nb2 p2 q2 q2m⟩, fun r hr => ?_⟩))
  obtain rfl := (hr _ _ _ _ rfl rfl rfl).trans (m.made' p2 q2)
  refine wg_name ?_
  show WS _ _ [.da .pot, .da (modD sp ps), .da (mdN sp ps), .da (mdN sp ps), .no, .ow (sS l1), .ow (dPs t1), .no] _
  -- both nets
  refine ws_seq (ws_if (wt_or (wt_not (wt_B (we_call (wa_cons (we_var rfl (wa_cons (we_var rfl (wa_nil ⟨isr, fun r hr => ⟨true, hr, fun h => (nomatch h), fun _ => ?_⟩⟩))))))))))
  refine wt_or (wt_not (wt_B (we_call (wa_cons (we_var rfl (wa_cons (we_var rfl (wa_nil ⟨isr, fun r hr => ⟨true, hr, fun h => (nomatch h), fun _ => ?_⟩⟩))))))))
  refine wt_or (wt_test (we_eqN T (we_var rfl (we_var rfl ⟨⟨_, _, _, rfl⟩, rfl, peq, fun r hr => ⟨true, by rw [hr _ _ _ _ rfl, eqB_self], _, rfl, fun h => (nomatch h), fun _ => ?_⟩⟩))))
  refine wt_not (wt_test (we_eqN T (we_var rfl (we_var rfl ⟨⟨_, _, _, rfl⟩, rfl, peq, fun r hr => ⟨true, by rw [hr _ _ _ _ rfl, eqB_self], _, rfl, fun h => (nomatch h), fun _ => ws_next ?_⟩⟩))))
  -- what is handed out is one's own
  obtain ⟨s0, hs0⟩ : ∃ s0, sp[0]? = Option.some s0 := ⟨_, List.getElem?_eq_getElem (by omega)⟩
  obtain ⟨sz, hsz⟩ : ∃ sz, sp[sp.length - 1]? = Option.some sz := ⟨_, List.getElem?_eq_getElem (by omega)⟩
  have m0 := List.mem_of_getElem? hs0
  have mz := List.mem_of_getElem? hsz
  have keyn : ∀ x ∈ sp, x ∈ (nearOf sp ps).map (·.1) := fun x hx => by rw [near_keys]; exact hx
  have nbx : ∀ x ∈ sp, nbOf (nearOf sp ps) x = srtS (raw ps x) := fun x hx => by unfold nbOf; rw [nearOf_look hx]; rfl
  have nle : ∀ x ∈ sp, x.length ≤ 1000 := fun x hx => by have := name_len (o1 x hx); omega
  have pNode : ∀ x ∈ sp, preNode [mdN sp ps, .str x] := fun x hx => ⟨_, _, _, x, rfl, keyn x hx, nle x hx⟩
  have pPiece : ∀ x ∈ sp, prePieceOf [mdN sp ps, .str x] := fun x hx => ⟨_, _, _, x, rfl, keyn x hx, nle x hx, grf_near W⟩
  obtain ⟨c1, c2⟩ := pcsL_ok mb
  refine ws_seq (ws_append (i := 5) rfl (we_str ⟨by rw [sS_len, p1.length_eq]; omega, ?_⟩))
  refine ws_seq (ws_clear (i := 6) rfl ?_)
  refine ws_seq (ws_clearO (R := fun _ => True) (wo_meth (by decide +kernel) (we_var rfl ⟨_, _, _, rfl, wa_nil ⟨⟨_, _, _, rfl⟩, fun _ _ => trivial⟩⟩)) ?_)
  refine ws_seq (ws_appendO (R := fun _ => True) (wo_meth (by decide +kernel) (we_var rfl ⟨_, _, _, rfl, wa_nil ⟨⟨_, _, _, rfl⟩, fun l hl => ?_⟩⟩)))
  obtain rfl := hl _ _ _ rfl
  refine ⟨by rw [dPs_len]; omega, we_non ?_⟩
  refine ws_seq (ws_piecesAppend (by decide +kernel) (we_var rfl ⟨_, _, _, pcsL sp ps, rfl, ⟨_, _, rfl, W, m.so⟩, fun l hl => hl _ _ _ rfl, pcsL_pos mb, fun l hl => by have := (c2 l hl).1; omega, ?_⟩))
  refine ws_seq (ws_clearO (R := fun _ => True) (wo_methN (by decide +kernel) (we_var rfl ⟨_, _, _, pcsL sp ps, rfl, ⟨_, _, rfl, W, m.so⟩, fun l hl => hl _ _ _ rfl, trivial⟩)) ?_)
  refine ws_seq (ws_appendO (R := fun _ => True) (wo_meth (by decide +kernel) (we_var rfl ⟨_, _, _, rfl, wa_cons (we_sp0 rfl hs0 (wa_nil ⟨pNode s0 m0, fun l hl => ?_⟩))⟩)))
  obtain rfl := hl _ _ _ _ rfl
  refine ⟨by rw [sS_len, nbx s0 m0, srtS_len]; have := raw_len ps s0; omega, we_str ?_⟩
  refine ws_seq (ws_clearO (R := fun _ => True) (wo_meth (by decide +kernel) (we_var rfl ⟨_, _, _, rfl, wa_cons (we_spm rfl hsz (wa_nil ⟨pPiece sz mz, fun _ _ => trivial⟩))⟩)) ?_)
  show WS _ _ [.da .pot, .da (modD sp ps), .da (mdN sp ps), .da (mdN sp ps), .no, .ow (sS l1 ++ [.str "zzzzzzzz"]), .ow [], .no] _
  refine ws_seq (ws_if (wt_or (wt_not (wt_B (we_call (wa_cons (we_var rfl (wa_cons (we_var rfl (wa_nil ⟨isr, fun r hr => ⟨true, hr, fun h => (nomatch h), fun _ => ?_⟩⟩))))))))))
  refine wt_or (wt_not (wt_B (we_call (wa_cons (we_var rfl (wa_cons (we_var rfl (wa_cons (we_var rfl (wa_nil ⟨⟨sp, ps, rfl, mb⟩, fun r hr => ⟨true, hr, fun h => (nomatch h), fun _ => ?_⟩⟩))))))))))
  refine wt_not (wt_B (we_call (wa_cons (we_var rfl (wa_cons (we_var rfl (wa_cons (we_var rfl (wa_nil ⟨⟨sp, ps, rfl, m, by omega, by omega⟩, fun r hr => ⟨true, hr, fun h => (nomatch h), fun _ => ws_next ?_⟩⟩)))))))))
  refine ws_seq (ws_asg (we_sp0 rfl hs0 (wg_name ?_)))
  show WS _ _ [.da .pot, .da (modD sp ps), .da (mdN sp ps), .da (mdN sp ps), .da (.str s0), .ow (sS l1 ++ [.str "zzzzzzzz"]), .ow [], .no] _
  -- arguments by name
  have okS : ∀ l : List Str, (∀ s ∈ l, nameOk s = true) → (D.lst (sS l)).ok 10 = true := fun l h => by
    show D.okAll 9 (sS l) = true
    exact ok_sS (n := 9) fun s hs => name_strOk (h s hs)
  have okN := okS (srtS (raw ps s0)) fun s hs => o1 s (W.nb ((srtS_perm _).mem_iff.mp hs)).2
  have okP := okS (pcS sp (raw ps) s0) fun s hs => o1 s (pcS_mem.mp hs).1
  refine ws_seq (ws_if (wt_or (wt_test (we_op (WO.we (wo_methK (by decide +kernel) (we_var rfl ⟨_, _, _, rfl, wa_cons (we_var rfl (wa_nil ⟨rfl, pNode s0 m0, fun l hl => ?_⟩))⟩)))))))
  obtain rfl := hl _ _ _ _ rfl
  refine WO.we (wo_meth (by decide +kernel) (we_var rfl ⟨_, _, _, rfl, wa_cons (we_var rfl (wa_nil ⟨pNode s0 m0, fun l hl => ?_⟩))⟩))
  obtain rfl := hl _ _ _ _ rfl
  rw [nbx s0 m0]
  refine v2_neD okN okN (nob_sS _) (nob_sS _) fun b hb => ⟨_, rfl, fun h => ?_, fun _ => ?_⟩
  · rw [hb.mpr rfl] at h; cases h
  refine wt_test (we_op (WO.we (wo_methK (by decide +kernel) (we_var rfl ⟨_, _, _, rfl, wa_cons (we_var rfl (wa_nil ⟨rfl, pPiece s0 m0, fun l hl => ?_⟩))⟩))))
  obtain rfl := piece_eq W m0 (hl _ _ _ _ rfl)
  refine WO.we (wo_meth (by decide +kernel) (we_var rfl ⟨_, _, _, rfl, wa_cons (we_var rfl (wa_nil ⟨pPiece s0 m0, fun l hl => ?_⟩))⟩))
  obtain rfl := piece_eq W m0 (hl _ _ _ _ rfl)
  refine v2_neD okP okP (nob_sS _) (nob_sS _) fun b hb => ⟨_, rfl, fun h => ?_, fun _ => ws_next ?_⟩
  · rw [hb.mpr rfl] at h; cases h
  -- nothing else is the same net
  refine ws_seq (ws_if (wt_B (we_cb (wa_cons (WO.we (wo_lc (go_name (by simp)) (wi_list (WO.we (wo_lst (wa_cons (we_non (wa_cons (we_int (wa_cons (we_sp rfl (wa_cons (we_pr rfl (wa_cons (we_var rfl (wa_cons (we_reprN (we_var rfl ⟨_, _, _, rfl, ⟨_, _, _, rfl, mb.rpN⟩, fun d hd => ⟨_, hd _ _ _ rfl, ?_⟩⟩))))))))))))))))))))))
  refine wa_cons (we_var rfl (wa_nil ⟨by show (7 : Nat) ≤ 1000; decide, ?_⟩))
  refine ⟨_, rfl, by show (7 : Nat) ≤ 5000; decide, fun i acc => acc = sB (List.replicate i false), rfl, ?_, ?_⟩
  · rintro i d acc hd rfl
    have hmem := List.mem_of_getElem? hd
    have key : d.inst = true ∧ (∀ a b c, d ≠ .net a b c) ∧ eqB sp ps d = false := by
      simp only [List.mem_cons, List.not_mem_nil, or_false] at hmem
      rcases hmem with rfl | rfl | rfl | rfl | rfl | rfl | rfl <;> exact ⟨rfl, fun _ _ _ e => (nomatch e), rfl⟩
    refine wg_name (wt_yes ⟨fun _ => ?_, fun h => nomatch h⟩)
    show WE _ _ [.da .pot, .da (modD sp ps), .da (mdN sp ps), .da (mdN sp ps), .da (.str s0), .ow (sS l1 ++ [.str "zzzzzzzz"]), .ow [], .da d] _
    refine we_eqN T (we_var rfl (we_var rfl ⟨⟨_, _, _, rfl⟩, key.1, ⟨_, _, _, _, rfl, key.1, mb.ok, fun _ _ _ e => absurd e (key.2.1 _ _ _)⟩, fun r hr => ⟨false, by rw [hr _ _ _ _ rfl, key.2.2], ?_⟩⟩))
    show sB (List.replicate i false) ++ [.bl false] = sB (List.replicate (i + 1) false)
    rw [List.replicate_succ']
    simp [sB]
  rintro acc rfl
  refine wa_nil (vc_any ⟨_, rfl, fun h => ?_, fun _ => ws_next ?_⟩)
  · exact absurd h (show ¬ (List.any (List.replicate 7 false) id = true) by decide)
  -- no links
  have mB := m.bare
  have mbB : MdB sp [] := ⟨mB, by omega, by show (0 : Nat) ≤ 110; decide⟩
  refine ws_ret (we_andV (we_eqN T (we_makeE (wa_cons (we_sp rfl (wa_nil ⟨⟨_, _, sp, [], rfl, rfl, rfl, mB.names nb1, mB.links (by show (0 : Nat) ≤ 120; decide)⟩, fun r hr => ?_⟩))))))
  obtain rfl := (hr _ _ sp [] rfl rfl rfl).trans mB.made
  refine we_make (dd := []) (fun _ _ => .nil) (wa_cons (we_sp rfl (wa_cons (WO.we (wo_lst (wa_nil ⟨by show (0 : Nat) ≤ 1000; decide, ?_⟩))))))
  refine wa_nil ⟨⟨_, _, sp, [], rfl, rfl, rfl, mB.names nb1, mB.links (by show (0 : Nat) ≤ 120; decide)⟩, fun r hr => ?_⟩
  obtain rfl := (hr _ _ sp [] rfl rfl rfl).trans mB.made
  refine ⟨⟨_, _, _, rfl⟩, rfl, ⟨_, _, _, _, rfl, rfl, mbB.ok, fun _ _ _ e => by cases e; exact mbB.ok⟩, fun r hr => ⟨true, by rw [hr _ _ _ _ rfl, eqB_self], true, rfl, fun _ => ?_, fun h => (nomatch h)⟩⟩
  exact we_call (wa_cons (we_var rfl (wa_cons (we_var rfl (wa_nil ⟨isr, fun r hr => hr⟩)))))
end
end K11

/-! K11AJ: teams of names, in plain words. -/
namespace K11
open PySem PySem.Spec PyProof.Rows L2

/-- f, with x at the end of a's -/
def grow (f : Addr → List Str) (a : Addr) (x : Str) : Addr → List Str := fun b => if b = a then f b ++ [x] else f b
theorem grow_self (f : Addr → List Str) (a : Addr) (x : Str) : grow f a x a = f a ++ [x] := if_pos rfl
theorem grow_ne {f : Addr → List Str} {a b : Addr} {x : Str} (h : b ≠ a) : grow f a x b = f b := if_neg h
theorem grow_off {f : Addr → List Str} {a : Addr} {x : Str} : ∀ {S : List Addr}, a ∉ S → S.flatMap (grow f a x) = S.flatMap f
  | [], _ => rfl
  | b :: S, h => by
    rw [List.flatMap_cons, List.flatMap_cons, grow_ne (fun e => h (by rw [e]; exact List.mem_cons_self)), grow_off fun z => h (List.mem_cons_of_mem _ z)]
theorem grow_perm {f : Addr → List Str} {a : Addr} {x : Str} : ∀ {S : List Addr}, S.Nodup → a ∈ S → (S.flatMap (grow f a x)).Perm (x :: S.flatMap f)
  | [], _, h => nomatch h
  | b :: S, nd, h => by
    rw [List.nodup_cons] at nd
    rw [List.flatMap_cons, List.flatMap_cons]
    by_cases e : b = a
    · subst e
      rw [grow_self, grow_off nd.1, List.append_assoc]
      exact List.perm_middle
    · rw [grow_ne e]
      have ha : a ∈ S := by
        rcases List.mem_cons.mp h with z | z
        · exact absurd z.symm e
        · exact z
      exact ((grow_perm nd.2 ha).append_left (f b)).trans List.perm_middle
theorem nd_of {f : Addr → List Str} : ∀ {S : List Addr}, (S.flatMap f).Nodup → (∀ a ∈ S, f a ≠ []) → S.Nodup
  | [], _, _ => List.nodup_nil
  | b :: S, nd, ne => by
    rw [List.flatMap_cons, List.nodup_append] at nd
    refine List.nodup_cons.mpr ⟨fun h => ?_, nd_of nd.2.1 fun a h => ne a (List.mem_cons_of_mem _ h)⟩
    obtain ⟨x, hx⟩ := List.exists_mem_of_ne_nil _ (ne b List.mem_cons_self)
    exact nd.2.2 x hx x (List.mem_flatMap.mpr ⟨b, h, hx⟩) rfl

/-- the teams and the links within them -/
structure Tms (n : Nat) (S : List Addr) (f : Addr → List Str) (tr : List Lk) (i : Nat) : Prop where
  sl : S.length = n
  fl : (S.flatMap f).length = n + i
  nd : (S.flatMap f).Nodup
  ne : ∀ a ∈ S, f a ≠ []
  ok : ∀ a ∈ S, ∀ s ∈ f a, nameS s
  tl : tr.length = i
  tn : tr.Nodup
  tp : ∀ p ∈ tr, ordP p = p ∧ p.1 ≠ p.2 ∧ ∃ a ∈ S, p.1 ∈ f a ∧ p.2 ∈ f a
theorem ordP_two {a b c d : Str} (h : ordP (a, b) = ordP (c, d)) : (a = c ∧ b = d) ∨ (a = d ∧ b = c) := by
  rcases ordP_ends (a, b) with e | e <;> rcases ordP_ends (c, d) with e' | e' <;> rw [e, e'] at h <;> cases h
  · exact .inl ⟨rfl, rfl⟩
  · exact .inr ⟨rfl, rfl⟩
  · exact .inr ⟨rfl, rfl⟩
  · exact .inl ⟨rfl, rfl⟩
theorem Tms.step {n : Nat} {S : List Addr} {f : Addr → List Str} {tr : List Lk} {i : Nat} (h : Tms n S f tr i) {a : Addr} {x y : Str} (ha : a ∈ S) (hx : x ∈ f a) (hy : nameS y) (hn : y ∉ S.flatMap f) : Tms n S (grow f a y) (tr ++ [ordP (x, y)]) (i + 1) := by
  have P := grow_perm (f := f) (x := y) (nd_of h.nd h.ne) ha
  have sub : ∀ b z, z ∈ f b → z ∈ grow f a y b := fun b z hz => by
    by_cases e : b = a
    · subst e
      rw [grow_self]
      exact List.mem_append_left _ hz
    · rw [grow_ne e]; exact hz
  have my : y ∈ grow f a y a := by rw [grow_self]; exact List.mem_append_right _ (List.mem_singleton.mpr rfl)
  have mem : ∀ b ∈ S, ∀ z ∈ f b, z ∈ S.flatMap f := fun b hb z hz => List.mem_flatMap.mpr ⟨b, hb, hz⟩
  have nxy : x ≠ y := fun e => hn (e ▸ mem a ha x hx)
  refine ⟨h.sl, by rw [P.length_eq, List.length_cons, h.fl]; omega, P.nodup_iff.mpr (List.nodup_cons.mpr ⟨hn, h.nd⟩), fun b hb e => ?_, fun b hb s hs => ?_, by rw [List.length_append, h.tl]; rfl, ?_, fun p hp => ?_⟩
  · by_cases z : b = a
    · subst z
      rw [e] at my; cases my
    · rw [grow_ne z] at e
      exact h.ne b hb e
  · by_cases z : b = a
    · subst z
      rw [grow_self] at hs
      rcases List.mem_append.mp hs with k | k
      · exact h.ok b hb s k
      · rw [List.mem_singleton.mp k]; exact hy
    · rw [grow_ne z] at hs
      exact h.ok b hb s hs
  · refine List.nodup_append.mpr ⟨h.tn, by simp, fun p hp q hq e => ?_⟩
    rw [List.mem_singleton.mp hq] at e
    subst e
    obtain ⟨_, _, b, hb, k1, k2⟩ := h.tp _ hp
    rcases ordP_ends (x, y) with e | e <;> rw [e] at k1 k2
    · exact hn (mem b hb y k2)
    · exact hn (mem b hb y k1)
  · rcases List.mem_append.mp hp with k | k
    · obtain ⟨k1, k2, b, hb, k3, k4⟩ := h.tp p k
      exact ⟨k1, k2, b, hb, sub b _ k3, sub b _ k4⟩
    · rw [List.mem_singleton.mp k]
      refine ⟨ordP_idem _, ?_⟩
      rcases ordP_ends (x, y) with e | e <;> rw [e]
      · exact ⟨nxy, a, ha, sub a x hx, my⟩
      · exact ⟨nxy.symm, a, ha, my, sub a x hx⟩
theorem Tms.start {n : Nat} {S : List Addr} {f : Addr → List Str} {l : List Str} (hl : l.length = n) (h : S.map f = l.map fun s => [s]) (nd : l.Nodup) (ok : ∀ s ∈ l, nameS s) : Tms n S f [] 0 := by
  have fm : S.flatMap f = l := by
    rw [List.flatMap_def, h]
    clear h hl nd ok
    induction l with
    | nil => rfl
    | cons s l ih => rw [List.map_cons, List.flatten_cons, ih]; rfl
  have sl : S.length = n := by
    have := congrArg List.length h
    rw [List.length_map, List.length_map] at this
    omega
  have each : ∀ a ∈ S, ∃ s ∈ l, f a = [s] := fun a ha => by
    have : f a ∈ l.map fun s => [s] := h ▸ List.mem_map.mpr ⟨a, ha, rfl⟩
    obtain ⟨s, hs, e⟩ := List.mem_map.mp this
    exact ⟨s, hs, e.symm⟩
  refine ⟨sl, by rw [fm]; exact hl, by rw [fm]; exact nd, fun a ha e => ?_, fun a ha s hs => ?_, rfl, List.nodup_nil, fun _ h => nomatch h⟩
  · obtain ⟨s, _, k⟩ := each a ha
    rw [k] at e; cases e
  · obtain ⟨s', hs', k⟩ := each a ha
    rw [k] at hs
    rw [List.mem_singleton.mp hs]
    exact ok s' hs'

/-- which team -/
theorem idx_uniq {L : List (List Str)} {i j : Nat} {l1 l2 : List Str} {x : Str} (nd : L.flatten.Nodup) (h1 : L[i]? = some l1) (h2 : L[j]? = some l2) (x1 : x ∈ l1) (x2 : x ∈ l2) : i = j := by
  have pw := (List.pairwise_flatten.mp nd).2
  obtain ⟨i1, e1⟩ := List.getElem?_eq_some_iff.mp h1
  obtain ⟨i2, e2⟩ := List.getElem?_eq_some_iff.mp h2
  rw [List.pairwise_iff_getElem] at pw
  rcases Nat.lt_trichotomy i j with k | k | k
  · exact absurd rfl (pw i j i1 i2 k x (e1 ▸ x1) x (e2 ▸ x2))
  · exact k
  · exact absurd rfl (pw j i i2 i1 k x (e2 ▸ x2) x (e1 ▸ x1))
/-- b links the two teams of e -/
def Bd (L : List (List Str)) (e : Nat × Nat) (b : Lk) : Prop := ∃ l1 l2 x y, L[e.1]? = some l1 ∧ L[e.2]? = some l2 ∧ x ∈ l1 ∧ y ∈ l2 ∧ b = ordP (x, y)
theorem bd_uniq {L : List (List Str)} {e e' : Nat × Nat} {b : Lk} (nd : L.flatten.Nodup) (h : Bd L e b) (h' : Bd L e' b) (lt : e.1 < e.2) (lt' : e'.1 < e'.2) : e = e' := by
  obtain ⟨l1, l2, x, y, a1, a2, a3, a4, rfl⟩ := h
  obtain ⟨m1, m2, z, w, b1, b2, b3, b4, eq⟩ := h'
  rcases ordP_two eq with ⟨rfl, rfl⟩ | ⟨rfl, rfl⟩
  · exact Prod.ext (idx_uniq nd a1 b1 a3 b3) (idx_uniq nd a2 b2 a4 b4)
  · have q1 := idx_uniq nd a1 b2 a3 b4
    have q2 := idx_uniq nd a2 b1 a4 b3
    omega
theorem bd_tree {L : List (List Str)} {e : Nat × Nat} {p : Lk} (nd : L.flatten.Nodup) (h : Bd L e p) (lt : e.1 < e.2) {l : List Str} (hl : l ∈ L) (p1 : p.1 ∈ l) (p2 : p.2 ∈ l) : False := by
  obtain ⟨l1, l2, x, y, a1, a2, a3, a4, rfl⟩ := h
  obtain ⟨m, hm⟩ := List.getElem?_of_mem hl
  rcases ordP_ends (x, y) with e' | e' <;> rw [e'] at p1 p2
  · have q1 := idx_uniq nd a1 hm a3 p1
    have q2 := idx_uniq nd a2 hm a4 p2
    omega
  · have q1 := idx_uniq nd a1 hm a3 p2
    have q2 := idx_uniq nd a2 hm a4 p1
    omega
theorem Bd.fit {L : List (List Str)} {e : Nat × Nat} {b : Lk} (nd : L.flatten.Nodup) (h : Bd L e b) (lt : e.1 < e.2) : ordP b = b ∧ b.1 ≠ b.2 ∧ b.1 ∈ L.flatten ∧ b.2 ∈ L.flatten := by
  obtain ⟨l1, l2, x, y, a1, a2, a3, a4, rfl⟩ := h
  refine ordP_fit (fun z => ?_) (List.mem_flatten.mpr ⟨l1, List.mem_of_getElem? a1, a3⟩) (List.mem_flatten.mpr ⟨l2, List.mem_of_getElem? a2, a4⟩)
  subst z
  have := idx_uniq nd a1 a2 a3 a4
  omega
/-- the links so far -/
structure Bnd (L : List (List Str)) (tr : List Lk) (E : List (Nat × Nat)) (bs : List Lk) : Prop where
  F : Fit L.flatten (tr ++ bs)
  of : ∀ b ∈ bs, ∃ e ∈ E, Bd L e b
  ln : bs.length = E.length
theorem Bnd.step {L : List (List Str)} {tr : List Lk} {E : List (Nat × Nat)} {bs : List Lk} (h : Bnd L tr E bs) (nd : L.flatten.Nodup) (ht : ∀ p ∈ tr, ∃ l ∈ L, p.1 ∈ l ∧ p.2 ∈ l) (lts : ∀ e ∈ E, e.1 < e.2) {e : Nat × Nat} {b : Lk} (he : e ∉ E) (lt : e.1 < e.2) (hb : Bd L e b) : Bnd L tr (E ++ [e]) (bs ++ [b]) := by
  refine ⟨?_, fun q hq => ?_, by rw [List.length_append, List.length_append, h.ln]; rfl⟩
  · rw [← List.append_assoc]
    refine h.F.snoc (hb.fit nd lt) fun z => ?_
    rcases List.mem_append.mp z with z | z
    · obtain ⟨l, hl, k1, k2⟩ := ht b z
      exact bd_tree nd hb lt hl k1 k2
    · obtain ⟨e', m, hb'⟩ := h.of b z
      exact he (bd_uniq nd hb hb' lt (lts e' m) ▸ m)
  · rcases List.mem_append.mp hq with z | z
    · obtain ⟨e', m, hb'⟩ := h.of q z
      exact ⟨e', List.mem_append_left _ m, hb'⟩
    · rw [List.mem_singleton.mp z]
      exact ⟨e, List.mem_append_right _ (List.mem_singleton.mpr rfl), hb⟩
theorem tree_fit {L : List (List Str)} {tr : List Lk} (tn : tr.Nodup) (h : ∀ p ∈ tr, ordP p = p ∧ p.1 ≠ p.2 ∧ ∃ l ∈ L, p.1 ∈ l ∧ p.2 ∈ l) : Bnd L tr [] [] :=
  ⟨⟨by rw [List.append_nil]; exact tn, fun p hp => by
    rw [List.append_nil] at hp
    obtain ⟨a, b, l, hl, c, d⟩ := h p hp
    exact ⟨a, b, List.mem_flatten.mpr ⟨l, hl, c⟩, List.mem_flatten.mpr ⟨l, hl, d⟩⟩⟩, fun _ h => (nomatch h), rfl⟩
/-- teams, each mixed -/
structure Mxd (T L : List (List Str)) : Prop where
  ln : L.length = T.length
  pm : L.flatten.Perm T.flatten
  fw : ∀ t ∈ T, ∃ l ∈ L, l.Perm t
  bw : ∀ l ∈ L, ∃ t ∈ T, l.Perm t
theorem Mxd.nil : Mxd [] [] := ⟨rfl, .refl _, fun _ h => (nomatch h), fun _ h => (nomatch h)⟩
theorem Mxd.step {T L : List (List Str)} (h : Mxd T L) {t l : List Str} (p : l.Perm t) : Mxd (T ++ [t]) (L ++ [l]) := by
  refine ⟨by rw [List.length_append, List.length_append, h.ln]; rfl, ?_, fun x hx => ?_, fun x hx => ?_⟩
  · rw [List.flatten_append, List.flatten_append, List.flatten_cons, List.flatten_cons, List.flatten_nil, List.append_nil, List.append_nil]
    exact h.pm.append p
  · rcases List.mem_append.mp hx with z | z
    · obtain ⟨y, hy, q⟩ := h.fw x z
      exact ⟨y, List.mem_append_left _ hy, q⟩
    · rw [List.mem_singleton.mp z]
      exact ⟨l, List.mem_append_right _ (List.mem_singleton.mpr rfl), p⟩
  · rcases List.mem_append.mp hx with z | z
    · obtain ⟨y, hy, q⟩ := h.bw x z
      exact ⟨y, List.mem_append_left _ hy, q⟩
    · rw [List.mem_singleton.mp z]
      exact ⟨t, List.mem_append_right _ (List.mem_singleton.mpr rfl), p⟩
end K11


/-! K11AK: lists of one's own within a list of one's own: a view by addresses. -/
namespace K11
open PySem PySem.Spec PyProof.Rows L2
local macro_rules | `(tactic| walk_at "w") => `(tactic| (first
  | (with_reducible refine ws_seq ?_)
  | (with_reducible refine ws_ret ?_)
  | (with_reducible refine ws_if ?_)
  | (with_reducible refine ws_asg ?_)
  | (with_reducible refine ws_break ?_)
  | (with_reducible refine ws_drop ?_)
  | (with_reducible refine we_var (by with_unfolding_all rfl) ?_)
  | (with_reducible refine we_int ?_)
  | (with_reducible refine we_str ?_)
  | (with_reducible refine we_bl ?_)
  | (with_reducible refine we_non ?_)
  | (with_reducible refine we_ty ?_)
  | (with_reducible refine we_cls ?_)
  | (with_reducible refine wa_cons ?_)
  | (with_reducible refine wa_nil ?_)
  | (with_reducible refine we_cb ?_)
  | (with_reducible refine vc_lenL ?_)
  | (with_reducible refine vc_lenT ?_)
  | (with_reducible refine v2_B0 ?_)
  | (with_reducible refine v2_I0 ?_)
  | (with_reducible refine we_call ?_)
  | (with_reducible refine we_op ?_)
  | (with_reducible refine we_tup ?_)
  | (with_reducible refine we_if ?_)
  | (with_reducible refine we_chain ?_)
  | (with_reducible refine wt_test ?_)
  | (with_reducible refine wt_B ?_)
  | (with_reducible refine wt_not ?_)
  | (with_reducible refine wt_or ?_)
  | (with_reducible refine wt_and ?_)))


/-! ## data without .nl, .pot, types, nets -/
mutual
def D.plain : D → Bool
  | .non => true
  | .bl _ => true
  | .int _ => true
  | .str _ => true
  | .lst l => D.plainAll l
  | .tup l => D.plainAll l
  | .dic l => D.plainK l
  | _ => false
def D.plainAll : List D → Bool
  | [] => true
  | d :: l => d.plain && D.plainAll l
def D.plainK : List (Str × D) → Bool
  | [] => true
  | (_, d) :: l => d.plain && D.plainK l
end
mutual
theorem Rep.plain {W W' : Wd} {H : Hp} (e : W.K = W'.K) : ∀ {v : V} {d : D}, d.plain = true → Rep W H v d → Rep W' H v d
  | _, _, _, .non => .non
  | _, _, _, .bl b => .bl b
  | _, _, _, .int i => .int i
  | _, _, _, .str s => .str s
  | .ref _, .lst ds, h, .lst a r => Rep.lst a (Reps.plain e (show D.plainAll ds = true from h) r)
  | .ref _, .tup ds, h, .tup t r => Rep.tup (e ▸ t) (Reps.plain e (show D.plainAll ds = true from h) r)
  | .ref _, .dic ds, h, .dic t r => Rep.dic t (RepK.plain e (show D.plainK ds = true from h) r)
  | _, _, h, .net _ _ _ _ => nomatch h
  | _, _, h, .pot => nomatch h
  | _, _, h, .nl _ _ _ => nomatch h
  | .ty _, .ty _, h, _ => by cases h
  | .ref _, .cls, h, _ => by cases h
theorem Reps.plain {W W' : Wd} {H : Hp} (e : W.K = W'.K) : ∀ {v : List V} {d : List D}, D.plainAll d = true → Reps W H v d → Reps W' H v d
  | _, _, _, .nil => .nil
  | _, _, h, .cons r t => by
    rw [D.plainAll, Bool.and_eq_true] at h
    have h' := h
    exact .cons (Rep.plain e h'.1 r) (Reps.plain e h'.2 t)
theorem RepK.plain {W W' : Wd} {H : Hp} (e : W.K = W'.K) : ∀ {v : List (Key × V)} {d : List (Str × D)}, D.plainK d = true → RepK W H v d → RepK W' H v d
  | _, _, _, .nil => .nil
  | _, _, h, .cons r t => by
    rw [D.plainK, Bool.and_eq_true] at h
    have h' := h
    exact .cons (Rep.plain e h'.1 r) (RepK.plain e h'.2 t)
end
theorem plain_map {α : Type} {f : α → D} (h : ∀ x, (f x).plain = true) : ∀ l : List α, D.plainAll (l.map f) = true
  | [] => rfl
  | x :: l => by
    show ((f x).plain && D.plainAll (l.map f)) = true
    rw [h x, plain_map h l]; rfl
theorem plain_sS (l : List Str) : D.plainAll (sS l) = true := plain_map (fun _ => rfl) l
theorem plain_dPs (l : List Lk) : D.plainAll (dPs l) = true := plain_map (fun _ => rfl) l
theorem plain_lsD (l : List (List Str)) : D.plainAll (lsD l) = true := plain_map (f := fun x : List Str => D.lst (sS x)) (fun x => (show D.plainAll (sS x) = true from plain_sS x)) l

/-! ## statements one after the other, at the top of a def -/
structure EndsF (B : Bs) (P : Po) (E : Ends) : Prop where
  nx : ∀ M σ H Γ, Stt B M H σ Γ → P.nx Γ → E.nx σ H
  rt : ∀ M σ H Γ v d, Stt B M H σ Γ → Rep B.W (cut M H) v d → P.rt d → E.rt v H
  ro : ∀ M σ H Γ p xs l, Stt B M H σ Γ → Own B M p → H p = some (.lst xs) → Reps B.W (cut M H) xs l → P.ro l → E.rt (.ref p) H
  bk : ∀ M σ H Γ, Stt B M H σ Γ → P.bk Γ → E.bk σ H
  ct : ∀ M σ H Γ, Stt B M H σ Γ → P.ct Γ → E.ct σ H
def WSf (B : Bs) (t : TS) (Γ : Ctx) (P : Po) : Prop := ∀ M σ H, Stt B M H σ Γ → ∀ E : Ends, EndsF B P E → t E σ H
section
variable {B : Bs} {Γ : Ctx} {P : Po} {t u : TS}
theorem wsf_of (h : WS B t Γ P) : WSf B t Γ P := fun M σ H S E e => h M σ H S E ⟨fun M σ H Γ S _ q => e.nx M σ H Γ S q, e.rt, e.ro, fun M σ H Γ S _ q => e.bk M σ H Γ S q, fun M σ H Γ S _ q => e.ct M σ H Γ S q⟩
theorem wsf_seq (h : WS B t Γ { P with nx := fun Γ' => WSf B u Γ' P }) : WSf B (tSeq t u) Γ P := fun M σ H S E e =>
  h M σ H S { E with nx := u E } ⟨fun M1 σ1 H1 Γ1 S1 s q => q M1 σ1 H1 S1 E e, e.rt, e.ro, fun M σ H Γ S _ q => e.bk M σ H Γ S q, fun M σ H Γ S _ q => e.ct M σ H Γ S q⟩
/-- the same, by what holds between -/
theorem wsf_seqI (I : Ctx → Prop) (h : WS B t Γ { P with nx := I }) (k : ∀ Γ', I Γ' → WSf B u Γ' P) : WSf B (tSeq t u) Γ P :=
  wsf_seq (h.imp ⟨k, fun _ h => h, fun _ h => h, fun _ h => h, fun _ h => h⟩)
theorem ws_seqI (I : Ctx → Prop) (h : WS B t Γ { P with nx := I }) (k : ∀ Γ', I Γ' → WS B u Γ' P) : WS B (tSeq t u) Γ P :=
  ws_seq (h.imp ⟨k, fun _ h => h, fun _ h => h, fun _ h => h, fun _ h => h⟩)
end

/-! ## the view -/
def lessM (M : Addr → Prop) (S : List Addr) : Addr → Prop := fun b => M b ∧ b ∉ S
def Bv (B : Bs) (S : List Addr) : Bs := ⟨⟨B.W.K, B.W.C, B.W.pot, fun a => a ∉ S⟩, B.M0, B.H0⟩
structure Tm (B : Bs) (M : Addr → Prop) (H : Hp) (σ : L2.St) (Γ : Ctx) (T : Addr) (S : List Addr) (f : Addr → List Str) : Prop where
  st : Stt B M H σ Γ
  tv : σ[7]? = some (some (.ref T))
  tm : ¬ M T
  tc : H T = some (.lst (S.map V.ref))
  sm : ∀ a ∈ S, M a
  sc : ∀ a ∈ S, H a = some (.lst ((f a).map V.str))
  sp : ∀ a ∈ S, a ≠ B.W.pot
  s0 : ∀ a ∈ S, B.H0 a = none
  sM : ∀ a ∈ S, ¬ B.M0 a
  so : ∀ a ∈ S, ∀ (j : Nat) e, Γ[j]? = some e → e.own = true → σ[j]? = some (some (.ref a)) → False
def Vw (B : Bs) (M : Addr → Prop) (H : Hp) (σ : L2.St) (Γv : Ctx) : Prop := ∀ (i : Nat) e, Γv[i]? = some e → e.own = false ∧ EntOk B M H (σ[i]?.join) e
section
variable {B : Bs} {M : Addr → Prop} {H H' : Hp} {σ : L2.St} {Γ Γv : Ctx} {T : Addr} {S : List Addr} {f : Addr → List Str}
theorem vw_nil (n : Nat) : Vw B M H σ (List.replicate n .no) := fun i e h => by
  rw [List.getElem?_replicate] at h
  split at h
  · cases h; exact ⟨rfl, trivial⟩
  · cases h
theorem vw_set (h : Vw B M H σ Γv) {i : Nat} {d : D} {v : V} (hv : σ[i]? = some (some v)) (r : Rep B.W (cut M H) v d) : Vw B M H σ (Γv.set i (.da d)) := fun j e he => by
  rcases getE_set he with ⟨z1, z2, _⟩ | ⟨_, z2⟩
  · subst z1 z2
    rw [hv]
    exact ⟨rfl, v, rfl, r⟩
  · exact h j e z2
theorem Tm.view (h : Tm B M H σ Γ T S f) (hl : Γv.length = Γ.length) (hv : Vw (Bv B S) (lessM M S) H σ Γv) : Stt (Bv B S) (lessM M S) H σ Γv where
  pt := h.st.pt
  mp := ⟨h.st.mp, fun z => h.sp _ z rfl⟩
  kp := h.st.kp
  sub := fun m hm => ⟨h.st.sub m hm, fun z => h.sM m z hm⟩
  new := fun m hm => h.st.new m hm.1
  dom := fun m hm => h.st.dom m hm.1
  tp := fun m xs hm => h.st.tp m xs hm.1
  len := by rw [h.st.len, hl]
  ent := fun i e hi => (hv i e hi).2
  inj := fun i j e g p h1 h2 h3 => by rw [(hv i e h1).1] at h3; cases h3
theorem Tm.fx (h : Tm B M H σ Γ T S f) (pt : PotAt H' B.W.pot) (x : Fx B.W.pot M H H') : Tm B M H' σ Γ T S f :=
  { h with st := h.st.fx x pt, tc := x.ext _ _ h.tm h.tc, sc := fun a ha => (x.own a (h.sm a ha) (h.sp a ha)).trans (h.sc a ha) }
theorem Tm.wide (h : Tm B M H σ Γ T S f) (x : Fx B.W.pot (lessM M S) H H') : Fx B.W.pot M H H' := ⟨fun b o n e => x.ext b o (fun z => n z.1) e, fun m hm n => by
  by_cases z : m ∈ S
  · rw [h.sc m z]; exact x.ext m _ (fun q => q.2 z) (h.sc m z)
  · exact x.own m ⟨hm, z⟩ n⟩
theorem Tm.run {te : TE} {R : D → Prop} (h : Tm B M H σ Γ T S f) (hl : Γv.length = Γ.length) (hv : Vw (Bv B S) (lessM M S) H σ Γv) (w : WE (Bv B S) te Γv R) {Q : VK}
    (q : ∀ v H' d, Tm B M H' σ Γ T S f → Fx B.W.pot M H H' → Rep (Bv B S).W (cut (lessM M S) H') v d → R d → Q v H') : te σ H Q :=
  w _ σ H (h.view hl hv) Q fun v H' d S' x r hr => q v H' d (h.fx S'.pt (h.wide x)) (h.wide x) r hr
theorem Tm.rep_a (h : Tm B M H σ Γ T S f) {a : Addr} (ha : a ∈ S) : Rep (Bv B S).W (cut (lessM M S) H) (.ref a) (.nl (sS (f a))) :=
  .nl (cut_some.mpr ⟨fun z => z.2 ha, h.sc a ha⟩) (Reps.of_strs _) fun z => z ha
theorem reps_map {W : Wd} {g : Addr → D} : ∀ {S : List Addr}, (∀ a ∈ S, Rep W H (.ref a) (g a)) → Reps W H (S.map V.ref) (S.map g)
  | [], _ => .nil
  | a :: S, h => .cons (h a List.mem_cons_self) (reps_map fun b hb => h b (List.mem_cons_of_mem _ hb))
theorem Tm.rep_nl (h : Tm B M H σ Γ T S f) : Rep (Bv B S).W (cut (lessM M S) H) (.ref T) (.lst (S.map fun a => .nl (sS (f a)))) :=
  .lst (cut_some.mpr ⟨fun z => h.tm z.1, h.tc⟩) (reps_map fun _ ha => h.rep_a ha)
theorem Tm.rep_ls (h : Tm B M H σ Γ T S f) : Rep (Bv B S).W (cut (lessM M S) H) (.ref T) (.lst (lsD (S.map f))) := by
  refine .lst (cut_some.mpr ⟨fun z => h.tm z.1, h.tc⟩) ?_
  unfold lsD
  rw [List.map_map]
  exact reps_map fun _ ha => (h.rep_a ha).nl_lst
/-- a name is set -/
theorem Tm.put (h : Tm B M H σ Γ T S f) {i : Nat} {v : Option V} (hi : i ≠ 7) : Tm B M H (σ.set i v) (Γ.set i .no) T S f :=
  by
  refine { h with st := h.st.putN, tv := ?_, so := fun a ha j e h1 h2 h3 => ?_ }
  · rw [List.getElem?_set_ne hi]; exact h.tv
  · rcases getE_set h1 with ⟨_, z2, _⟩ | ⟨z1, z2⟩
    · subst z2; cases h2
    · rw [List.getElem?_set_ne z1] at h3
      exact h.so a ha j e z2 h2 h3
/-- a list of one's own grows -/
theorem Tm.mut (h : Tm B M H σ Γ T S f) {i : Nat} {l l' : List D} {p : Addr} {ys : List V} (hi : Γ[i]? = some (.ow l)) (hp : σ[i]? = some (some (.ref p))) (o : Own B M p) (r : Reps B.W (cut M H) ys l') :
    Tm B M (upd H p (.lst ys)) σ (Γ.set i (.ow l')) T S f ∧ Same (cut M H) (cut M (upd H p (.lst ys))) := by
  obtain ⟨S2, s2⟩ := h.st.mut (o := .lst ys) (e' := .ow l') hi rfl hp o ⟨p, _, rfl, o, upd_same, r.mono (cut_upd o.m)⟩
  refine ⟨{ h with st := S2, tc := ?_, sc := fun a ha => ?_, so := fun a ha j e h1 h2 h3 => ?_ }, s2⟩
  · rw [upd_ne (fun e => h.tm (by rw [e]; exact o.m))]; exact h.tc
  · rw [upd_ne (fun e => h.so a ha i _ hi rfl (by rw [e]; exact hp))]; exact h.sc a ha
  · rcases getE_set h1 with ⟨z1, _, _⟩ | ⟨_, z2⟩
    · subst z1
      exact h.so a ha i _ hi rfl h3
    · exact h.so a ha j e z2 h2 h3
/-- one of the lists grows -/
theorem Tm.app (h : Tm B M H σ Γ T S f) {a : Addr} {x : Str} (ha : a ∈ S) : Tm B M (upd H a (.lst ((f a).map V.str ++ [.str x]))) σ Γ T S (grow f a x) ∧ Same (cut M H) (cut M (upd H a (.lst ((f a).map V.str ++ [.str x])))) := by
  refine ⟨{ h with st := h.st.touch (h.sm a ha) (h.sp a ha) (h.s0 a ha) (h.so a ha), tc := ?_, sc := fun b hb => ?_ }, cut_upd (h.sm a ha)⟩
  · rw [upd_ne (fun e => h.tm (by rw [e]; exact h.sm a ha))]; exact h.tc
  · by_cases e : b = a
    · subst e
      rw [upd_same, grow_self, List.map_append]; rfl
    · rw [upd_ne e, grow_ne e]; exact h.sc b hb
/-- from here on they are data -/
theorem Tm.lend (h : Tm B M H σ Γ T S f) : Stt B (lessM M S) H σ (Γ.set 7 (.da (.lst (lsD (S.map f))))) := by
  have sm : Same (cut M H) (cut (lessM M S) H) := cut_sub fun b z => z.1
  have S1 : Stt B (lessM M S) H σ Γ := by
    refine ⟨h.st.pt, ⟨h.st.mp, fun z => h.sp _ z rfl⟩, h.st.kp, fun m hm => ⟨h.st.sub m hm, fun z => h.sM m z hm⟩, fun m hm => h.st.new m hm.1, fun m hm => h.st.dom m hm.1, fun m xs hm => h.st.tp m xs hm.1, h.st.len, fun j e he => ?_, h.st.inj⟩
    have q := h.st.ent j e he
    have up : e.own = true → ∀ {a : Addr}, σ[j]?.join = some (.ref a) → Own B M a → Own B (lessM M S) a := fun hf {a} ha o2 => ⟨⟨o2.m, fun z => h.so a z j e he hf (join_some ha)⟩, o2.np, o2.h0, o2.m0⟩
    cases e with
    | no => exact trivial
    | da d => obtain ⟨v, e1, r⟩ := q; exact ⟨v, e1, r.mono sm⟩
    | ow l => obtain ⟨a, xs, e1, o1, h1, r⟩ := q; exact ⟨a, xs, e1, up rfl e1 o1, h1, r.mono sm⟩
    | owK l => obtain ⟨a, xs, e1, o1, h1, r⟩ := q; exact ⟨a, xs, e1, up rfl e1 o1, h1, r.mono sm⟩
    | owT l => obtain ⟨a, e1, o1, h1⟩ := q; exact ⟨a, e1, up rfl e1 o1, h1⟩
    | ins a0 fs => obtain ⟨a, dx, xs, e1, o1, h1, r⟩ := q; exact ⟨a, dx, xs, e1, up rfl e1 o1, h1, r.mono sm⟩
  have pl : (D.lst (lsD (S.map f))).plain = true := (show D.plainAll (lsD (S.map f)) = true from plain_lsD _)
  have rr : Rep B.W (cut (lessM M S) H) (.ref T) (.lst (lsD (S.map f))) := Rep.plain (W := (Bv B S).W) (W' := B.W) rfl pl h.rep_ls
  have S2 := S1.putD (i := 7) rr
  have e : σ.set 7 (some (.ref T)) = σ := by
    refine List.ext_getElem? fun j => ?_
    by_cases z : 7 = j
    · subst z
      rw [List.getElem?_set_self (List.getElem?_eq_some_iff.mp h.tv).1]; exact h.tv.symm
    · rw [List.getElem?_set_ne z]
  rw [e] at S2
  exact S2
end

/-- what a list at an address holds, as texts -/
def strsAt (H : Hp) (a : Addr) : List Str := match H a with
  | some (.lst ys) => ys.filterMap fun v => match v with
    | .str s => some s
    | _ => none
  | _ => []
def Ent.lite : Ent → Bool
  | .no => true
  | .da .pot => true
  | .da d => d.flat
  | .ow l => D.flatAll l
  | _ => false
section
variable {B : Bs} {M : Addr → Prop} {H : Hp} {σ : L2.St} {Γ : Ctx}
theorem nl_one : ∀ {xs : List V} {l : List Str}, Reps B.W (cut M H) xs (l.map fun s => .nl (sS [s])) → ∃ S : List Addr, xs = S.map V.ref ∧ S.map (strsAt H) = (l.map fun s => [s]) ∧ ∀ a ∈ S, ¬ M a ∧ H a = some (.lst ((strsAt H a).map V.str)) ∧ ¬ B.W.old a ∧ strsAt H a ≠ []
  | _, [], h => by cases h; exact ⟨[], rfl, rfl, fun _ h => (nomatch h)⟩
  | _, s :: l, h => by
    cases h with
    | cons h r =>
      obtain ⟨S, e1, e2, e3⟩ := nl_one (l := l) r
      cases h with
      | nl h1 rs n =>
        rename_i a ys
        obtain ⟨z1, z2⟩ := cut_some.mp h1
        have ey := rs.strs
        subst ey
        have e : strsAt H a = [s] := by unfold strsAt; rw [z2]; rfl
        refine ⟨a :: S, by rw [e1]; rfl, by rw [List.map_cons, e, e2]; rfl, fun b hb => ?_⟩
        rcases List.mem_cons.mp hb with z | z
        · subst z
          rw [e]
          exact ⟨z1, z2, n, fun z => (nomatch z)⟩
        · exact e3 b z
theorem Stt.take (S : Stt B M H σ Γ) (hl : ∀ (i : Nat) e, Γ[i]? = some e → e.lite = true) {A : List Addr} (hA : ∀ a ∈ A, ¬ M a ∧ (∃ xs, H a = some (.lst xs)) ∧ B.H0 a = none) : Stt B (fun b => M b ∨ b ∈ A) H σ Γ where
  pt := S.pt
  mp := .inl S.mp
  kp := S.kp
  sub := fun m h => .inl (S.sub m h)
  new := fun m h => h.elim (S.new m) fun z => .inr (hA m z).2.2
  dom := fun m h => h.elim (S.dom m) fun z => by
    obtain ⟨_, ⟨xs, e⟩, _⟩ := hA m z
    rw [e]; exact fun z => nomatch z
  tp := fun m ys h => h.elim (S.tp m ys) fun z => by
    obtain ⟨_, ⟨xs, e⟩, _⟩ := hA m z
    rw [e]; exact fun z => nomatch z
  len := S.len
  ent := fun i e h => by
    have q := S.ent i e h
    have l := hl i e h
    have t : ∀ b xs, cut M H b = some (.tup xs) → cut (fun b => M b ∨ b ∈ A) H b = some (.tup xs) := fun b xs z => by
      obtain ⟨z1, z2⟩ := cut_some.mp z
      refine cut_some.mpr ⟨fun k => k.elim z1 fun k => ?_, z2⟩
      obtain ⟨_, ⟨ys, e⟩, _⟩ := hA b k
      rw [e] at z2; cases z2
    cases e with
    | no => exact trivial
    | da d =>
      obtain ⟨v, e1, r⟩ := q
      refine ⟨v, e1, ?_⟩
      cases d with
      | pot => cases r; exact .pot
      | _ => exact r.flat t l
    | ow ds => obtain ⟨a, xs, e1, o, h1, r⟩ := q; exact ⟨a, xs, e1, ⟨.inl o.m, o.np, o.h0, o.m0⟩, h1, r.flat t l⟩
    | owK _ => cases l
    | owT _ => cases l
    | ins _ _ => cases l
  inj := S.inj
theorem Tm.start (hod : ∀ a, ¬ B.W.old a → B.H0 a = none) {l : List Str} (S0 : Stt B M H σ Γ) (h7 : Γ[7]? = some (.da (.lst (l.map fun s => .nl (sS [s]))))) (hl : ∀ (i : Nat) e, (Γ.set 7 .no)[i]? = some e → e.lite = true) :
    ∃ T S f M', S.map f = (l.map fun s => [s]) ∧ Tm B M' H σ (Γ.set 7 .no) T S f := by
  obtain ⟨v, e1, r⟩ := S0.ent 7 _ h7
  cases r with
  | lst h1 rs =>
    rename_i T xs
    obtain ⟨S, ex, e2, e3⟩ := nl_one rs
    subst ex
    obtain ⟨tm, tc⟩ := cut_some.mp h1
    have S1 : Stt B M H σ (Γ.set 7 .no) := S0.dropE
    have S2 := S1.take hl (A := S) fun a ha => ⟨(e3 a ha).1, ⟨_, (e3 a ha).2.1⟩, hod a (e3 a ha).2.2.1⟩
    refine ⟨T, S, strsAt H, _, e2, S2, join_some e1, fun z => z.elim tm fun z => ?_, tc, fun a ha => .inr ha, fun a ha => (e3 a ha).2.1, fun a ha e => (e3 a ha).1 (e ▸ S0.mp), fun a ha => hod a (e3 a ha).2.2.1, fun a ha z => (e3 a ha).1 (S0.sub a z), fun a ha j e h1 h2 h3 => S1.apart (e3 a ha).1 j e h1 h2 h3⟩
    obtain ⟨_, k, _, ne⟩ := e3 T z
    rw [tc] at k
    cases S with
    | nil => cases z
    | cons b S =>
      cases hs : strsAt H T with
      | nil => exact ne hs
      | cons s r => rw [hs] at k; cases k
end
end K11


/-! K11AL: the teams' loop of _law_knotted. -/
namespace K11
open PySem PySem.Spec PyProof.Rows L2
local macro_rules | `(tactic| walk_at "w") => `(tactic| (first
  | (with_reducible refine ws_seq ?_)
  | (with_reducible refine ws_ret ?_)
  | (with_reducible refine ws_if ?_)
  | (with_reducible refine ws_asg ?_)
  | (with_reducible refine ws_break ?_)
  | (with_reducible refine ws_drop ?_)
  | (with_reducible refine we_var (by with_unfolding_all rfl) ?_)
  | (with_reducible refine we_int ?_)
  | (with_reducible refine we_str ?_)
  | (with_reducible refine we_bl ?_)
  | (with_reducible refine we_non ?_)
  | (with_reducible refine we_ty ?_)
  | (with_reducible refine we_cls ?_)
  | (with_reducible refine wa_cons ?_)
  | (with_reducible refine wa_nil ?_)
  | (with_reducible refine we_cb ?_)
  | (with_reducible refine vc_lenL ?_)
  | (with_reducible refine vc_lenT ?_)
  | (with_reducible refine v2_B0 ?_)
  | (with_reducible refine v2_I0 ?_)
  | (with_reducible refine we_call ?_)
  | (with_reducible refine we_op ?_)
  | (with_reducible refine we_tup ?_)
  | (with_reducible refine we_if ?_)
  | (with_reducible refine we_chain ?_)
  | (with_reducible refine wt_test ?_)
  | (with_reducible refine wt_B ?_)
  | (with_reducible refine wt_not ?_)
  | (with_reducible refine wt_or ?_)
  | (with_reducible refine wt_and ?_)))


section
variable {P : Program} {w : World} {K : PySem.W.Frag} {mg : Str → Option Value} {base : Heap} {C : Addr}
def preK : List D → Prop := fun ds => ds = [.pot, .int 2, .int 2]
theorem fnK {x qual : Str} {st : Stmt} {f : Addr} {fd : FuncData} {N ps : List Str} {k : Nat} {Post : D → Prop} (F : FunX K x qual st f fd) (S : FnScope N ps (defScope st)) (hl : ps.length = 3) (hpl : ∀ d, Post d → d.plain = true)
    (hbody : ∀ (cdv : Value) (A : Around) (outer : List Env) (s : Shared) (H : Hp) (E : XK), Room k (A.deeper (envOfC qual (defScope st) s.heap.objs.size f cdv)) →
      ∃ t, PSs (cxOf CX0 P w K mg base N qual (defScope st) f cdv A outer s H E).nox (defBody st) t ∧ ∀ pot M H, WSf ⟨fresh K C pot H, M, H⟩ t (startC N [.pot, .int 2, .int 2]) { rt := Post }) : FnOk P w K mg base CX0 (k + 1) f fd ps (SpD K C preK fun _ d => Post d) := by
  have pl : ps.length ≤ N.length := by have := congrArg List.length S.pre; rw [List.length_take] at this; omega
  refine F.ok S (fun vs H Q E ⟨pot, old, M, ds, _, r, hp, _⟩ => by rw [r.length, show ds = [.pot, .int 2, .int 2] from hp, hl]; rfl) fun cdv A outer s H vs Q E hr ⟨pot, old, M, ds, fc, r, hp, q⟩ => ?_
  obtain ⟨t, ht, hw⟩ := hbody cdv A outer s H E hr
  obtain rfl : ds = [.pot, .int 2, .int 2] := hp
  have r' : Reps (fresh K C pot H) (cut M H) vs [.pot, .int 2, .int 2] := by
    cases r with
    | cons a r => cases r with
      | cons b r => cases r with
        | cons c r =>
          cases r; cases a; cases b; cases c
          exact .cons .pot (.cons (.int 2) (.cons (.int 2) .nil))
  refine ⟨t, ht, hw pot M H M _ H (stt_start fc r' (by rw [show ([D.pot, .int 2, .int 2] : List D).length = 3 from rfl, ← hl]; exact pl)) _ ⟨fun _ _ _ _ _ h => h.elim, fun M1 σ1 H1 Γ1 v d S1 rd h => ?_, fun _ _ _ _ _ _ _ _ _ _ _ h => h.elim, fun _ _ _ _ _ h => h.elim, fun _ _ _ _ _ h => h.elim⟩⟩
  obtain ⟨p, x⟩ := S1.back fc
  exact q v H1 d p x (Rep.plain (W := fresh K C pot H) (W' := ⟨K, C, pot, old⟩) rfl (hpl d h) (rd.mono (cut_sub S1.sub))) h
end

abbrev kG (w : Int) (ends : List D) (tr : List Lk) (e4 e7 : Ent) : Ctx := [.da .pot, .da (.int 2), .da (.int 2), .da (.int w), e4, .ow ends, .no, e7, .no, .ow (dPs tr), .no, .no, .no, .no, .no, .no, .no, .no]
abbrev v07 (d : D) : Ctx := ((List.replicate 18 Ent.no).set 0 (.da .pot)).set 7 (.da d)
abbrev v0ab (d e : D) : Ctx := (((List.replicate 18 Ent.no).set 0 (.da .pot)).set 10 (.da d)).set 11 (.da e)
theorem Stt.pot0 {B : Bs} {M : Addr → Prop} {H : Hp} {σ : L2.St} {Γ : Ctx} (S : Stt B M H σ Γ) (h : Γ[0]? = some (.da .pot)) : σ[0]? = some (some (.ref B.W.pot)) := by
  obtain ⟨v, e, r⟩ := S.ent 0 _ h
  cases r
  exact join_some e
section
variable {B : Bs} {M : Addr → Prop} {H : Hp} {σ : L2.St} {Γ : Ctx} {T : Addr} {S : List Addr} {f : Addr → List Str}
theorem Tm.vw7 (h : Tm B M H σ Γ T S f) {d : D} (h0 : Γ[0]? = some (.da .pot)) (r : Rep (Bv B S).W (cut (lessM M S) H) (.ref T) d) : Vw (Bv B S) (lessM M S) H σ (v07 d) := by
  have p : Rep (Bv B S).W (cut (lessM M S) H) (.ref B.W.pot) .pot := Rep.pot (W := (Bv B S).W)
  exact vw_set (vw_set (vw_nil 18) (h.st.pot0 h0) p) h.tv r
theorem Tm.vwab (h : Tm B M H σ Γ T S f) {d e : D} {v u : V} (h0 : Γ[0]? = some (.da .pot)) (h1 : σ[10]? = some (some v)) (h2 : σ[11]? = some (some u)) (r1 : Rep (Bv B S).W (cut (lessM M S) H) v d) (r2 : Rep (Bv B S).W (cut (lessM M S) H) u e) : Vw (Bv B S) (lessM M S) H σ (v0ab d e) := by
  have p : Rep (Bv B S).W (cut (lessM M S) H) (.ref B.W.pot) .pot := Rep.pot (W := (Bv B S).W)
  exact vw_set (vw_set (vw_set (vw_nil 18) (h.st.pot0 h0) p) h1 r1) h2 r2
end
theorem len_mem {T : List (List Str)} {t : List Str} (h : t ∈ T) : t.length ≤ T.flatten.length := by
  induction T with
  | nil => cases h
  | cons a T ih =>
    rw [List.flatten_cons, List.length_append]
    rcases List.mem_cons.mp h with z | z
    · rw [z]; omega
    · have := ih z; omega
theorem wsf_grow {B : Bs} {P : Po} {u : TS} {td t1 t2 t3 : TE} {w : Int} {ends : List D} {e4 : Ent} {l : List Str} {n : Nat} (hod : ∀ a, ¬ B.W.old a → B.H0 a = none) (hn : l.length = n) (n1 : 1 ≤ n) (n5 : n ≤ 5) (nd : l.Nodup) (ok : ∀ s ∈ l, nameS s) (fl : D.flatAll ends = true)
    (hd : ∀ Γ : Ctx, Γ[0]? = some (.da .pot) → Γ[1]? = some (.da (.int 2)) → WE B td Γ fun d => ∃ t : Int, d = .int t ∧ 0 ≤ t ∧ t < 3)
    (h1 : ∀ (S : List Addr) (Γ : Ctx) (L : List D), Γ[0]? = some (.da .pot) → Γ[7]? = some (.da (.lst L)) → 1 ≤ L.length → L.length ≤ 1000 → WE (Bv B S) t1 Γ fun d => d ∈ L)
    (h2 : ∀ (S : List Addr) (Γ : Ctx) (L : List (List Str)), Γ[0]? = some (.da .pot) → Γ[7]? = some (.da (.lst (lsD L))) → L.length ≤ 60 → L.flatten.length ≤ 60 → WE (Bv B S) t2 Γ fun d => ∃ y, d = .str y ∧ nameS y ∧ y ∉ L.flatten)
    (h3 : ∀ (S : List Addr) (Γ : Ctx) (l : List Str) (y : Str), Γ[0]? = some (.da .pot) → Γ[10]? = some (.da (.lst (sS l))) → Γ[11]? = some (.da (.str y)) → 1 ≤ l.length → l.length ≤ 60 → WE (Bv B S) t3 Γ fun d => ∃ x ∈ l, d = dP (ordP (x, y)))
    (k : ∀ S f tr i, Tms n S f tr i → i ≤ 2 → WSf B u (kG w ends tr .no (.da (.lst (lsD (S.map f))))) P) :
    WSf B (tSeq (tFor (iRng1 (tCons td tNil)) (gName 6) (tSeq (tAsg t1 (gName 10)) (tSeq (tAsg t2 (gName 11)) (tSeq (tDrop (tBM B.W.K "list" rAppend (tVar 9) (tCons t3 tNil))) (tDrop (tBM B.W.K "list" rAppend (tVar 10) (tCons (tVar 11) tNil))))))) u)
      (kG w ends [] e4 (.da (.lst (l.map fun s => .nl (sS [s]))))) P := by
  intro M σ H S E e
  have Sa : Stt B M H σ (kG w ends [] .no (.da (.lst (l.map fun s => .nl (sS [s]))))) := S.dropE (i := 4)
  obtain ⟨T, A, f0, M1, e1, t0⟩ := Tm.start hod Sa (l := l) rfl (by
    have z : List.all ((kG w ends [] .no (.da (.lst (l.map fun s => .nl (sS [s]))))).set 7 .no) Ent.lite = true := by
      show (true && (true && (true && (true && (true && (D.flatAll ends && (true && (true && (true && (true && (true && (true && (true && (true && (true && (true && (true && (true && true)))))))))))))))))) = true
      rw [fl]; rfl
    exact fun i e h => List.all_eq_true.mp z e (List.mem_of_getElem? h))
  replace t0 : Tm B M1 H σ (kG w ends [] .no .no) T A f0 := t0
  have ts0 := Tms.start hn e1 nd ok
  have hw : WI B (iRng1 (tCons td tNil)) (kG w ends [] .no .no) (fun ds => ∃ t : Nat, t < 3 ∧ ds = intsD 0 t) := wi_range1 (wa_cons ((hd _ rfl rfl).imp fun d ⟨t, e, a, b⟩ => wa_nil ⟨t, by rw [e], by omega, a, t.toNat, by omega, rfl⟩))
  show tFor (iRng1 (tCons td tNil)) (gName 6) _ { E with nx := u E } σ H
  refine hw M1 σ H t0.st _ fun J H1 ds G Y S1 x ⟨t, ht, eds⟩ sr => ?_
  have tt1 := t0.fx S1.pt x
  refine for_it sr.walk (fun i σ' H' => ∃ f tr, Tm B M1 H' σ' (kG w ends tr .no .no) T A f ∧ Same (cut M1 H1) (cut M1 H') ∧ Tms n A f tr i) ⟨f0, [], tt1, Same.refl _, ts0⟩ (fun i σ' H' _ ⟨_, _, _, s, _⟩ => sr.stays M1 H' s) ?_ ?_
  · rintro i v σ' H' H2 hi ⟨f, tr, tt, s, ts⟩ y
    have hi3 : i < 3 := by rw [eds, intsD_len] at hi; omega
    obtain ⟨hH, d, hd', rd⟩ := sr.gives i M1 H' v H2 hi s tt.st.dom y
    have T2 : Tm B M1 H2 σ' (kG w ends tr .no .no) T A f ∧ Same (cut M1 H') (cut M1 H2) := by
      rcases hH with rfl | ⟨p, o, hp, rfl⟩
      · exact ⟨tt, Same.refl _⟩
      · exact ⟨tt.fx (tt.st.alloc hp).pt (tt.st.new_ hp), cut_alloc' hp⟩
    obtain ⟨T2, s2⟩ := T2
    have sl := ts.sl
    have fll := ts.fl
    have T3 : Tm B M1 H2 (σ'.set 6 (some v)) (kG w ends tr .no .no) T A f := T2.put (i := 6) (by decide)
    -- a team
    show t1 (σ'.set 6 (some v)) H2 _
    refine T3.run (Γv := v07 (.lst (A.map fun a => .nl (sS (f a))))) rfl (T3.vw7 rfl T3.rep_nl) (h1 A _ _ rfl rfl (by rw [List.length_map]; omega) (by rw [List.length_map]; omega)) fun v3 H3 d3 T4 x3 r3 hd3 => ?_
    obtain ⟨a0, _, rfl⟩ := List.mem_map.mp hd3
    cases r3 with
    | nl g1 g2 g3 =>
    rename_i a ys
    have ha : a ∈ A := Classical.byContradiction g3
    have T5 : Tm B M1 H3 ((σ'.set 6 (some v)).set 10 (some (.ref a))) (kG w ends tr .no .no) T A f := T4.put (i := 10) (by decide)
    -- a fresh name
    show t2 ((σ'.set 6 (some v)).set 10 (some (.ref a))) H3 _
    refine T5.run (Γv := v07 (.lst (lsD (A.map f)))) rfl (T5.vw7 rfl T5.rep_ls) (h2 A _ _ rfl rfl (by rw [List.length_map]; omega) (by rw [← List.flatMap_def]; omega)) fun v4 H4 d4 T6 x4 r4 ⟨y, ed, ny, fy⟩ => ?_
    subst ed
    obtain rfl := r4.str_inv
    have T7 : Tm B M1 H4 (((σ'.set 6 (some v)).set 10 (some (.ref a))).set 11 (some (.str y))) (kG w ends tr .no .no) T A f := T6.put (i := 11) (by decide)
    have l18 : σ'.length = 18 := tt.st.len
    have h10 : (((σ'.set 6 (some v)).set 10 (some (.ref a))).set 11 (some (.str y)))[10]? = some (some (.ref a)) := by
      rw [List.getElem?_set_ne (by decide), List.getElem?_set_self (by rw [List.length_set, l18]; decide)]
    have h11 : (((σ'.set 6 (some v)).set 10 (some (.ref a))).set 11 (some (.str y)))[11]? = some (some (.str y)) := by
      rw [List.getElem?_set_self (by rw [List.length_set, List.length_set, l18]; decide)]
    show tDrop (tBM B.W.K "list" rAppend (tVar 9) (tCons t3 tNil)) _ (((σ'.set 6 (some v)).set 10 (some (.ref a))).set 11 (some (.str y))) H4
    generalize (((σ'.set 6 (some v)).set 10 (some (.ref a))).set 11 (some (V.str y)) : L2.St) = σ7 at T7 h10 h11
    have fa1 : 1 ≤ (f a).length := List.length_pos_iff.mpr (ts.ne a ha)
    have fa2 : (f a).length ≤ 60 := by
      have := len_mem (T := A.map f) (List.mem_map.mpr ⟨a, ha, rfl⟩)
      rw [← List.flatMap_def] at this
      omega
    -- the tree grows
    obtain ⟨p, xs, e1, o, hp, r⟩ := T7.st.ent 9 _ rfl
    have rl := r.length
    rw [dPs_len] at rl
    have trl := ts.tl
    refine ⟨_, join_some e1, .inl ⟨rfl, _, .of hp⟩, T7.run (te := t3) (Γv := v0ab (.lst (sS (f a))) (.str y)) rfl (T7.vwab rfl h10 h11 (T7.rep_a ha).nl_lst (.str y)) (h3 A _ (f a) y rfl rfl rfl fa1 fa2) fun v5 H5 d5 T8 x5 r5 ⟨x, hx, ed⟩ => ?_⟩
    subst ed
    have hp5 : H5 p = some (.lst xs) := (x5.own p o.m o.np).trans hp
    have pl : (dP (ordP (x, y))).plain = true := rfl
    have r5' : Rep B.W (cut M1 H5) v5 (dP (ordP (x, y))) := by
      refine Rep.flat (H := cut (lessM M1 A) H5) (fun b xs z => ?_) rfl (Rep.plain (W := (Bv B A).W) (W' := B.W) rfl pl r5)
      obtain ⟨z1, z2⟩ := cut_some.mp z
      refine cut_some.mpr ⟨fun m => T8.st.tp b xs m z2, z2⟩
    obtain ⟨T9, s9⟩ := T8.mut (i := 9) (l := dPs tr) (l' := dPs tr ++ [dP (ordP (x, y))]) (ys := xs ++ [v5]) rfl (join_some e1) o ((r.mono x5.cut).app (.one r5'))
    refine ⟨p, xs, v5, rfl, rfl, hp5, Nat.lt_of_le_of_lt (show xs.length ≤ 5000 by omega) (by decide), ?_⟩
    -- the team grows
    have ca := T9.sc a ha
    refine ⟨_, h10, .inl ⟨rfl, _, .of ca⟩, _, h11, a, _, _, rfl, rfl, ca, by rw [List.length_map]; exact Nat.lt_of_le_of_lt (show (f a).length ≤ 5000 by omega) (by decide), ?_⟩
    obtain ⟨T10, s10⟩ := T9.app (x := y) ha
    refine ⟨grow f a y, tr ++ [ordP (x, y)], ?_, s.trans (s2.trans (x3.cut.trans (x4.cut.trans (x5.cut.trans (s9.trans s10))))), ts.step ha hx ny (by rw [List.flatMap_def]; exact fy)⟩
    have ek : dPs (tr ++ [ordP (x, y)]) = dPs tr ++ [dP (ordP (x, y))] := by simp [dPs]
    unfold kG
    rw [ek]
    exact T10
  · rintro σ' H' ⟨f, tr, tt, s, ts⟩
    rw [eds, intsD_len] at ts
    exact k A f tr t ts (by omega) _ σ' H' tt.lend E e
end K11


/-! K11AM: _law_knotted. -/
namespace K11
open PySem PySem.Spec PyProof.Rows L2
local macro_rules | `(tactic| walk_at "w") => `(tactic| (first
  | (with_reducible refine ws_seq ?_)
  | (with_reducible refine ws_ret ?_)
  | (with_reducible refine ws_if ?_)
  | (with_reducible refine ws_asg ?_)
  | (with_reducible refine ws_break ?_)
  | (with_reducible refine ws_drop ?_)
  | (with_reducible refine we_var (by with_unfolding_all rfl) ?_)
  | (with_reducible refine we_int ?_)
  | (with_reducible refine we_str ?_)
  | (with_reducible refine we_bl ?_)
  | (with_reducible refine we_non ?_)
  | (with_reducible refine we_ty ?_)
  | (with_reducible refine we_cls ?_)
  | (with_reducible refine wa_cons ?_)
  | (with_reducible refine wa_nil ?_)
  | (with_reducible refine we_cb ?_)
  | (with_reducible refine vc_lenL ?_)
  | (with_reducible refine vc_lenT ?_)
  | (with_reducible refine v2_B0 ?_)
  | (with_reducible refine v2_I0 ?_)
  | (with_reducible refine we_call ?_)
  | (with_reducible refine we_op ?_)
  | (with_reducible refine we_tup ?_)
  | (with_reducible refine we_if ?_)
  | (with_reducible refine we_chain ?_)
  | (with_reducible refine wt_test ?_)
  | (with_reducible refine wt_B ?_)
  | (with_reducible refine wt_not ?_)
  | (with_reducible refine wt_or ?_)
  | (with_reducible refine wt_and ?_)))


/-- the teams as data -/
structure Tmd (n : Nat) (T : List (List Str)) (tr : List Lk) (i : Nat) : Prop where
  tl : T.length = n
  fl : T.flatten.length = n + i
  nd : T.flatten.Nodup
  ne : ∀ t ∈ T, t ≠ []
  ok : ∀ s ∈ T.flatten, nameS s
  rl : tr.length = i
  rn : tr.Nodup
  rp : ∀ p ∈ tr, ordP p = p ∧ p.1 ≠ p.2 ∧ ∃ t ∈ T, p.1 ∈ t ∧ p.2 ∈ t
theorem Tms.data {n : Nat} {S : List Addr} {f : Addr → List Str} {tr : List Lk} {i : Nat} (h : Tms n S f tr i) : Tmd n (S.map f) tr i := by
  have e : (S.map f).flatten = S.flatMap f := (List.flatMap_def ..).symm
  refine ⟨by rw [List.length_map]; exact h.sl, by rw [e]; exact h.fl, by rw [e]; exact h.nd, fun t ht => ?_, fun s hs => ?_, h.tl, h.tn, fun p hp => ?_⟩
  · obtain ⟨a, ha, rfl⟩ := List.mem_map.mp ht
    exact h.ne a ha
  · rw [e] at hs
    obtain ⟨a, ha, hs⟩ := List.mem_flatMap.mp hs
    exact h.ok a ha s hs
  · obtain ⟨x, y, a, ha, z⟩ := h.tp p hp
    exact ⟨x, y, f a, List.mem_map.mpr ⟨a, ha, rfl⟩, z⟩
def endD (e : Nat × Nat) : D := .tup [.int (e.1 : Nat), .int (e.2 : Nat)]
def endsD (E : List (Nat × Nat)) : List D := E.map endD
structure EdOk (n : Nat) (E : List (Nat × Nat)) : Prop where
  nd : E.Nodup
  lt : ∀ e ∈ E, e.1 < e.2 ∧ e.2 < n
  ln : E.length = 6
theorem flat_ends : ∀ E : List (Nat × Nat), D.flatAll (endsD E) = true
  | [] => rfl
  | e :: E => by
    show ((true && (true && true)) && D.flatAll (endsD E)) = true
    rw [flat_ends E]; rfl
theorem not_take {α : Type} {l : List α} {i : Nat} {a : α} (nd : l.Nodup) (h : l[i]? = some a) : a ∉ l.take i := fun z => by
  obtain ⟨j, hj⟩ := List.getElem?_of_mem z
  obtain ⟨hj1, hj2⟩ := List.getElem?_eq_some_iff.mp hj
  rw [List.length_take] at hj1
  rw [List.getElem?_take, if_pos (by omega)] at hj
  obtain ⟨i1, e1⟩ := List.getElem?_eq_some_iff.mp h
  obtain ⟨j1, e2⟩ := List.getElem?_eq_some_iff.mp hj
  have := (List.getElem_inj nd).mp (e1.trans e2.symm)
  omega
section
variable {B : Bs} {Γ : Ctx} {R : D → Prop}
theorem we_ij {i j : Int} (q : R (.tup [.int i, .int j])) : WE B (tTup (tCons (tC (.int i)) (tCons (tC (.int j)) tNil))) Γ R := we_tup (wa_cons (we_int (wa_cons (we_int (wa_nil ⟨by show (2 : Nat) ≤ 1000; decide, q⟩)))))
/-- named(pot, 1, taken)[0] -/
theorem we_fresh {tx : TE} (h0 : Γ[0]? = some (.da .pot)) (hx : WE B tx Γ fun d => ∃ tk : List Str, d = .lst (sS tk) ∧ tk.length ≤ 60 ∧ ∀ y, nameS y → y ∉ tk → R (.str y)) :
    WE B (tOp (rIxL B.W.K) (tCall (SpO B.W.K B.W.C preNamed postNamed) [] E0 (tCons (tVar 0) (tCons (tC (.int 1)) (tCons tx tNil)))) (tC (.int 0))) Γ R := by
  refine we_op (WO.we (wo_call (wa_cons (we_var h0 (wa_cons (we_int (wa_cons (hx.imp ?_))))))))
  rintro d ⟨tk, rfl, tl, k⟩
  refine wa_nil ⟨⟨1, tk, rfl, by decide, tl⟩, fun r hr => ?_⟩
  obtain ⟨l, rfl, ll, _, ok⟩ := hr 1 tk rfl
  refine we_int (v2_ixLn (by decide) (by rw [sS_len, ll]; decide) fun d hd => ?_)
  obtain ⟨y, rfl, hy⟩ := get_sS hd
  obtain ⟨n1, n2⟩ := ok y (List.mem_of_getElem? hy)
  exact k y n1 n2
end
theorem sS_mem {l : List Str} {d : D} (h : d ∈ sS l) : ∃ x ∈ l, d = .str x := by
  obtain ⟨x, hx, rfl⟩ := List.mem_map.mp h
  exact ⟨x, hx, rfl⟩
section
variable {P : Program} {w : World} {K : PySem.W.Frag} {mg : Str → Option Value} {base : Heap} {C : Addr}
abbrev sKnotted : Stmt := top 42
abbrev nKnotted : List Str := ["_law_pot_here", "_law_splits", "_law_extras", "_law_way", "_law_labels", "_law_ends_now", "_law_turn", "_law_teams", "_law_bonds", "_law_trees", "_law_team", "_law_fresh", "_law_spots", "_law_pairs", "_law_this", "_law_mate", "_law_label", "_law_near_here"]
theorem scKnotted : FnScope nKnotted ["_law_pot_here", "_law_splits", "_law_extras"] (defScope sKnotted) := ⟨rfl, rfl, rfl, by decide +kernel, rfl, by decide +kernel, by decide +kernel⟩
def KnR (d : D) : Prop := ∃ m x y z, d = .tup [m, x, y, z] ∧ ModR 9 10 m ∧ d.plain = true
abbrev CKnotted (P : Program) (w : World) (K : PySem.W.Frag) (mg : Str → Option Value) (base : Heap) (C : Addr) : Prop := Cl P w K mg base 3 "_law_knotted" ["_law_pot_here", "_law_splits", "_law_extras"] (SpD K C preK fun _ d => KnR d)
theorem cl_knotted (F : Fd K mg "_law_knotted" ["_law_pot_here", "_law_splits", "_law_extras"] sKnotted) (M : Mb mg) (c_draw : CDraw P w K mg base C) (c_pick : CPick P w K mg base C) (c_named : CNamed P w K mg base C) (c_link : CLink P w K mg base C) (c_mixed : CMixed P w K mg base C)
    (c_flat : Cl P w K mg base 1 "_law_flat" ["_law_lists"] (SpO K C preFlat fun ds r => ∀ l : List (List Str), ds = [.lst (l.map fun x => .lst (sS x))] → r = sS l.flatten)) : CKnotted P w K mg base C := F.cl fun f fd F => by
  refine fnK F scKnotted rfl (fun d ⟨_, _, _, _, _, _, h⟩ => h) fun cdv A outer s H E hr => ?_
  refine ⟨_, (pss_cons (ps_set (i := 3) scKnotted.nd rfl (by first | exact Or.inl rfl | exact Or.inr rfl) (pcl c_draw (hr.mono (by decide)) (pa_cons (pv 0) (pa_cons pe_int pa_nil))))
    (pss_cons (ps_set (i := 4) scKnotted.nd rfl (by first | exact Or.inl rfl | exact Or.inr rfl) (pcl c_named (hr.mono (by decide)) (pa_cons (pv 0) (pa_cons (pe_op op_add pe_int (pv 3)) (pa_cons (pe_lst pa_nil) pa_nil)))))
    (pss_cons (ps_set (i := 5) scKnotted.nd rfl (by first | exact Or.inl rfl | exact Or.inr rfl) (pe_lst (pa_cons (pe_tup (pa_cons pe_int (pa_cons pe_int pa_nil))) (pa_cons (pe_tup (pa_cons pe_int (pa_cons pe_int pa_nil))) (pa_cons (pe_tup (pa_cons pe_int (pa_cons pe_int pa_nil))) (pa_cons (pe_tup (pa_cons pe_int (pa_cons pe_int pa_nil))) (pa_cons (pe_tup (pa_cons pe_int (pa_cons pe_int pa_nil))) (pa_cons (pe_tup (pa_cons pe_int (pa_cons pe_int pa_nil))) pa_nil))))))))
    (pss_cons (ps_if (pt_cmpR op_eq (pv 3) pe_int (nomark _)) (pss_one (ps_set (i := 5) scKnotted.nd rfl (by first | exact Or.inl rfl | exact Or.inr rfl) (pe_lst (pa_cons (pe_tup (pa_cons pe_int (pa_cons pe_int pa_nil))) (pa_cons (pe_tup (pa_cons pe_int (pa_cons pe_int pa_nil))) (pa_cons (pe_tup (pa_cons pe_int (pa_cons pe_int pa_nil))) (pa_cons (pe_tup (pa_cons pe_int (pa_cons pe_int pa_nil))) (pa_cons (pe_tup (pa_cons pe_int (pa_cons pe_int pa_nil))) (pa_cons (pe_tup (pa_cons pe_int (pa_cons pe_int pa_nil))) pa_nil))))))))) pss_nil)
    (pss_cons (ps_asg (pe_tup (pa_cons (pe_lc (own := [("_law_label", 16)]) (by rfl) scKnotted.nd (pi_list (pv 4)) (blkOk_by (N := nKnotted) (sc := defScope sKnotted) (by decide +kernel)) (fun _ _ _ _ _ => (pg_name (i := 16) scKnotted.nd rfl (by first | exact Or.inl rfl | exact Or.inr rfl))) (fun _ _ _ _ _ => pts_nil) (fun _ _ _ _ _ => (pe_lst (pa_cons (pv 16) pa_nil)))) (pa_cons (pe_lst pa_nil) pa_nil))) (pg_tup (by rfl) (pgs_cons (pg_name (i := 7) scKnotted.nd rfl (by first | exact Or.inl rfl | exact Or.inr rfl)) (pgs_cons (pg_name (i := 9) scKnotted.nd rfl (by first | exact Or.inl rfl | exact Or.inr rfl)) pgs_nil))))
    (pss_cons (ps_for PassesOwn.never rfl (pi_range1 (by rfl) M.range (pa_cons (pcl c_draw (hr.mono (by decide)) (pa_cons (pv 0) (pa_cons (pe_op op_add (pv 1) pe_int) pa_nil))) pa_nil)) (pg_name (i := 6) scKnotted.nd rfl (by first | exact Or.inl rfl | exact Or.inr rfl)) (pss_cons (ps_set (i := 10) scKnotted.nd rfl (by first | exact Or.inl rfl | exact Or.inr rfl) (pcl c_pick (hr.mono (by decide)) (pa_cons (pv 0) (pa_cons (pv 7) pa_nil))))
    (pss_cons (ps_set (i := 11) scKnotted.nd rfl (by first | exact Or.inl rfl | exact Or.inr rfl) (pe_ix ix_list (pcl c_named (hr.mono (by decide)) (pa_cons (pv 0) (pa_cons pe_int (pa_cons (pcl c_flat (hr.mono (by decide)) (pa_cons (pv 7) pa_nil)) pa_nil)))) pe_int (fun _ _ => rfl)))
    (pss_cons (ps_expr (pe_bm PySem.F.plainAttrs_list PySem.F.slot_list_append PySem.F.type_list_append mt_append (pv 9) (pa_cons (pcl c_link (hr.mono (by decide)) (pa_cons (pcl c_pick (hr.mono (by decide)) (pa_cons (pv 0) (pa_cons (pv 10) pa_nil))) (pa_cons (pv 11) pa_nil))) pa_nil)))
    (pss_one (ps_expr (pe_bm PySem.F.plainAttrs_list PySem.F.slot_list_append PySem.F.type_list_append mt_append (pv 10) (pa_cons (pv 11) pa_nil))))))))
    (pss_cons (ps_set (i := 7) scKnotted.nd rfl (by first | exact Or.inl rfl | exact Or.inr rfl) (pe_lc (own := [("_law_team", 10)]) (by rfl) scKnotted.nd (pi_list (pv 7)) (blkOk_by (N := nKnotted) (sc := defScope sKnotted) (by decide +kernel)) (fun _ _ _ _ _ => (pg_name (i := 10) scKnotted.nd rfl (by first | exact Or.inl rfl | exact Or.inr rfl))) (fun _ _ _ _ _ => pts_nil) (fun _ _ _ _ _ => (by exact pcl c_mixed (hr.mono (by decide)) (pa_cons (pv 0) (pa_cons (pv 10) pa_nil))))))
    (pss_cons (ps_setLc (i := 8) (own := [("_law_this", 14), ("_law_mate", 15)]) (by rfl) scKnotted.nd rfl rfl (sw_true rfl rfl rfl (by decide +kernel)) (pi_list (pv 5)) (blkOk_by (N := nKnotted) (sc := defScope sKnotted) (by decide +kernel)) (fun _ _ _ _ _ => (pg_tupK (K := K) (n := 2) rfl (by rfl) (pgs_cons (pg_name (i := 14) scKnotted.nd rfl (by first | exact Or.inl rfl | exact Or.inr rfl)) (pgs_cons (pg_name (i := 15) scKnotted.nd rfl (by first | exact Or.inl rfl | exact Or.inr rfl)) pgs_nil)))) (fun _ _ _ _ _ => pts_nil) (fun _ _ _ _ _ => (by exact pcl c_link (hr.mono (by decide)) (pa_cons (by exact pcl c_pick (hr.mono (by decide)) (pa_cons (pv 0) (pa_cons (pe_ix (ix_listK (K := K) rfl) (pv 7) (pv 14) (fun _ _ => rfl)) pa_nil))) (pa_cons (by exact pcl c_pick (hr.mono (by decide)) (pa_cons (pv 0) (pa_cons (pe_ix (ix_listK (K := K) rfl) (pv 7) (pv 15) (fun _ _ => rfl)) pa_nil))) pa_nil)))))
    (pss_cons (ps_asg (pe_tup (pa_cons (pcl c_flat (hr.mono (by decide)) (pa_cons (pv 7) pa_nil)) (pa_cons (pe_op op_cat (pv 9) (pv 8)) pa_nil))) (pg_tup (by rfl) (pgs_cons (pg_name (i := 12) scKnotted.nd rfl (by first | exact Or.inl rfl | exact Or.inr rfl)) (pgs_cons (pg_name (i := 13) scKnotted.nd rfl (by first | exact Or.inl rfl | exact Or.inr rfl)) pgs_nil))))
    (pss_cons (ps_for PassesOwn.never rfl (pi_range1 (by rfl) M.range (pa_cons (pcl c_draw (hr.mono (by decide)) (pa_cons (pv 0) (pa_cons (pe_op op_add (pv 2) pe_int) pa_nil))) pa_nil)) (pg_name (i := 6) scKnotted.nd rfl (by first | exact Or.inl rfl | exact Or.inr rfl)) (pss_cons (ps_set (i := 14) scKnotted.nd rfl (by first | exact Or.inl rfl | exact Or.inr rfl) (pcl c_pick (hr.mono (by decide)) (pa_cons (pv 0) (pa_cons (pv 12) pa_nil))))
    (pss_cons (ps_set (i := 15) scKnotted.nd rfl (by first | exact Or.inl rfl | exact Or.inr rfl) (pe_ifExp (pt_cmpR op_eq (pcl c_draw (hr.mono (by decide)) (pa_cons (pv 0) (pa_cons pe_int pa_nil))) pe_int (nomark _)) (pcl c_pick (hr.mono (by decide)) (pa_cons (pv 0) (pa_cons (pv 12) pa_nil))) (pe_ix ix_list (pcl c_named (hr.mono (by decide)) (pa_cons (pv 0) (pa_cons pe_int (pa_cons (pv 12) pa_nil)))) pe_int (fun _ _ => rfl))))
    (pss_one (ps_if (PW.pt (pw_and (pt_cmpR (op_neD hr.units) (pv 14) (pv 15) (nomark _)) (pw_and1 (pt_cmpR (op_notInD (hu65 hr)) (pcl c_link (hr.mono (by decide)) (pa_cons (pv 14) (pa_cons (pv 15) pa_nil))) (pv 13) (by rfl))))) (pss_cons (ps_set (i := 13) scKnotted.nd rfl (by first | exact Or.inl rfl | exact Or.inr rfl) (pe_op op_cat (pv 13) (pe_lst (pa_cons (pcl c_link (hr.mono (by decide)) (pa_cons (pv 14) (pa_cons (pv 15) pa_nil))) pa_nil))))
    (pss_one (ps_set (i := 12) scKnotted.nd rfl (by first | exact Or.inl rfl | exact Or.inr rfl) (pe_op op_cat (pv 12) (pe_lc (own := [("_law_near_here", 17)]) (by rfl) scKnotted.nd (pi_list (pe_lst (pa_cons (pv 15) pa_nil))) (blkOk_by (N := nKnotted) (sc := defScope sKnotted) (by decide +kernel)) (fun _ _ _ _ _ => (pg_name (i := 17) scKnotted.nd rfl (by first | exact Or.inl rfl | exact Or.inr rfl))) (fun _ _ _ _ _ => (pts_one (pt_cmpR (op_notIn_seqK (K := K) rfl) (pv 17) (pv 12) (by rfl)))) (fun _ _ _ _ _ => (pv 17))))))) pss_nil)))))
    (pss_one (ps_ret (pe_tup (pa_cons (pe_disp (pps_cons pe_str (pe_callB (call_srt rfl) (by rfl) M.sorted (by decide +kernel) (pa_cons (pv 12) pa_nil)) (pps_cons pe_str (pe_callB (call_srt rfl) (by rfl) M.sorted (by decide +kernel) (pa_cons (pv 13) pa_nil)) pps_nil)) (by rfl) (by rfl) (fun z => by cases z) (by decide)) (pa_cons (pv 7) (pa_cons (pv 9) (pa_cons (pv 8) pa_nil))))))))))))))))), fun pot M H => ?_⟩
  dsimp only [cxOf, Cx.nox, Cx.wish]
  show WSf _ _ [.da .pot, .da (.int 2), .da (.int 2), .no, .no, .no, .no, .no, .no, .no, .no, .no, .no, .no, .no, .no, .no, .no] _
  refine wsf_seq (ws_asg (we_call (wa_cons (we_var rfl (wa_cons (we_int (wa_nil ⟨⟨2, rfl, by omega, by omega⟩, fun d hd => ?_⟩)))))))
  obtain ⟨way, rfl, w0, w1⟩ := hd _ rfl
  refine wg_name ?_
  show WSf _ _ [.da .pot, .da (.int 2), .da (.int 2), .da (.int way), .no, .no, .no, .no, .no, .no, .no, .no, .no, .no, .no, .no, .no, .no] _
  -- the labels
  have e4 : ((4 + way).toNat : Int) = 4 + way := Int.toNat_of_nonneg (by omega)
  refine wsf_seq (ws_asg (WO.we (wo_call (wa_cons (we_var rfl (wa_cons (we_op (we_int (we_var rfl (v2_I0 (wa_cons (WO.we (wo_lst (wa_nil ⟨by decide, wa_nil ⟨⟨(4 + way).toNat, [], by rw [e4]; rfl, by omega, by decide⟩, fun r hr' => ?_⟩⟩))))))))))))))
  obtain ⟨l, rfl, ll, nd, ok⟩ := hr' (4 + way).toNat [] (by rw [e4]; rfl)
  refine wg_name ?_
  show WSf _ _ [.da .pot, .da (.int 2), .da (.int 2), .da (.int way), .da (.lst (sS l)), .no, .no, .no, .no, .no, .no, .no, .no, .no, .no, .no, .no, .no] _
  -- the ends
  refine wsf_seq (ws_own (wo_lst (wa_cons (we_ij (wa_cons (we_ij (wa_cons (we_ij (wa_cons (we_ij (wa_cons (we_ij (wa_cons (we_ij (wa_nil ⟨by show (6 : Nat) ≤ 1000; decide, ?_⟩)))))))))))))))
  show WSf _ _ [.da .pot, .da (.int 2), .da (.int 2), .da (.int way), .da (.lst (sS l)), .ow (endsD [(0, 2), (0, 3), (0, 4), (1, 2), (1, 3), (1, 4)]), .no, .no, .no, .no, .no, .no, .no, .no, .no, .no, .no, .no] _
  refine wsf_seqI (fun Γ' => ∃ Ed, Γ' = [.da .pot, .da (.int 2), .da (.int 2), .da (.int way), .da (.lst (sS l)), .ow (endsD Ed), .no, .no, .no, .no, .no, .no, .no, .no, .no, .no, .no, .no] ∧ EdOk (4 + way).toNat Ed)
    (ws_if (wt_test (we_op (we_var rfl (we_int (v2_eqII ⟨_, rfl, fun h => ?_, fun h => ws_next ⟨_, rfl, ?_⟩⟩)))))) ?_
  · have h' : way = 0 := of_decide_eq_true h
    subst h'
    refine ws_own (wo_lst (wa_cons (we_ij (wa_cons (we_ij (wa_cons (we_ij (wa_cons (we_ij (wa_cons (we_ij (wa_cons (we_ij (wa_nil ⟨by show (6 : Nat) ≤ 1000; decide, ?_⟩))))))))))))))
    refine ⟨[(0, 1), (0, 2), (0, 3), (1, 2), (1, 3), (2, 3)], rfl, by decide, by decide, rfl⟩
  · have h' : way = 1 := by have := of_decide_eq_false h; omega
    subst h'
    exact ⟨by decide, by decide, rfl⟩
  rintro Γ' ⟨Ed, rfl, ed⟩
  have n5 : (4 + way).toNat ≤ 5 := by omega
  have n1 : 4 ≤ (4 + way).toNat := by omega
  generalize hn : (4 + way).toNat = n at ll ed n5 n1
  -- the teams
  refine wsf_seq (ws_tup2 (wf_da (WO.we (wo_lc (go_name (by simp)) (wi_list (we_var rfl ⟨_, rfl, by rw [sS_len]; omega, fun i acc => acc = (l.take i).map fun s => .nl (sS [s]), rfl, ?_, ?_⟩))))))
  · rintro i d acc hd rfl
    obtain ⟨x, rfl, hx⟩ := get_sS hd
    refine wg_name (wt_yes ⟨fun _ => ?_, fun h => nomatch h⟩)
    show WE _ _ [.da .pot, .da (.int 2), .da (.int 2), .da (.int way), .da (.lst (sS l)), .ow (endsD Ed), .no, .no, .no, .no, .no, .no, .no, .no, .no, .no, .da (.str x), .no] _
    refine we_nl (fun a h => h) (wo_lst (wa_cons (we_var rfl (wa_nil ⟨by show (1 : Nat) ≤ 1000; decide, ?_⟩))))
    show _ = List.map (fun s => D.nl (sS [s])) (List.take (i + 1) l)
    rw [List.take_add_one, hx, List.map_append]
    rfl
  rintro acc rfl
  rw [sS_len, List.take_length]
  refine wf_ow (wo_lst (wa_nil ⟨by decide, ?_⟩))
  show WSf _ _ (kG way (endsD Ed) [] (.da (.lst (sS l))) (.da (.lst (l.map fun s => .nl (sS [s]))))) _
  refine wsf_grow (fun a h => Classical.byContradiction h) ll (by omega) n5 nd (fun s hs => (ok s hs).1) (flat_ends Ed) (fun Γ h0 h1 => ?_) (fun S Γ L h0 h7 l1 l2 => ?_) (fun S Γ L h0 h7 l1 l2 => ?_) (fun S Γ l' y h0 h10 h11 l1 l2 => ?_) ?_
  · refine we_call (wa_cons (we_var h0 (wa_cons (we_op (we_var h1 (we_int (v2_I0 (wa_nil ⟨⟨3, rfl, by omega, by omega⟩, fun d hd => ?_⟩))))))))
    obtain ⟨t, rfl, t0, t1⟩ := hd _ rfl
    exact ⟨t, rfl, t0, t1⟩
  · exact we_call (wa_cons (we_var h0 (wa_cons (we_var h7 (wa_nil ⟨⟨L, rfl, l1, l2⟩, fun d hd => hd _ rfl⟩)))))
  · refine we_fresh h0 (WO.we (wo_call (wa_cons (we_var h7 (wa_nil ⟨⟨L, rfl, by omega, by omega⟩, fun r hr => ?_⟩)))))
    exact ⟨L.flatten, by rw [hr L rfl], l2, fun y h1 h2 => ⟨y, rfl, h1, h2⟩⟩
  · refine we_call (wa_cons (we_call (wa_cons (we_var h0 (wa_cons (we_var h10 (wa_nil ⟨⟨_, rfl, by rw [sS_len]; omega, by rw [sS_len]; omega⟩, fun d hd => ?_⟩)))))))
    obtain ⟨x, hx, rfl⟩ := sS_mem (hd _ rfl)
    exact wa_cons (we_var h11 (wa_nil ⟨⟨x, y, rfl⟩, fun d hd => ⟨x, hx, hd x y rfl⟩⟩))
  intro S0 f0 tr i ts hi
  have td := ts.data
  generalize S0.map f0 = T0 at td
  clear ts
  obtain ⟨tl, tfl, tnd, tne, tok, rl, rn, rp⟩ := td
  refine wsf_of (ws_give (i := 9) rfl (ws_give (i := 5) rfl ?_))
  show WS _ _ [.da .pot, .da (.int 2), .da (.int 2), .da (.int way), .no, .da (.lst (endsD Ed)), .no, .da (.lst (lsD T0)), .no, .da (.lst (dPs tr)), .no, .no, .no, .no, .no, .no, .no, .no] _
  -- mixed
  have lsl : ∀ L : List (List Str), (lsD L).length = L.length := fun L => by unfold lsD; rw [List.length_map]
  have gls : ∀ (L : List (List Str)) (j : Nat) (d : D), (lsD L)[j]? = Option.some d → ∃ t, d = .lst (sS t) ∧ L[j]? = Option.some t := fun L j d h => by
    unfold lsD at h
    rw [List.getElem?_map] at h
    obtain ⟨t, ht, e⟩ := Option.map_eq_some_iff.mp h
    exact ⟨t, e.symm, ht⟩
  refine ws_seq (ws_asg (WO.we (wo_lc (go_name (by simp)) (wi_list (we_var rfl ⟨_, rfl, by rw [lsl]; omega, fun i acc => ∃ L, acc = lsD L ∧ Mxd (T0.take i) L, ⟨[], rfl, Mxd.nil⟩, ?_, ?_⟩)))))
  · rintro j d acc hd ⟨L, rfl, mx⟩
    obtain ⟨t, rfl, ht⟩ := gls _ _ _ hd
    have tlen := len_mem (List.mem_of_getElem? ht)
    refine wg_name (wt_yes ⟨fun _ => ?_, fun h => nomatch h⟩)
    show WE _ _ [.da .pot, .da (.int 2), .da (.int 2), .da (.int way), .no, .da (.lst (endsD Ed)), .no, .da (.lst (lsD T0)), .no, .da (.lst (dPs tr)), .da (.lst (sS t)), .no, .no, .no, .no, .no, .no, .no] _
    refine WO.we (wo_call (wa_cons (we_var rfl (wa_cons (we_var rfl (wa_nil ⟨⟨_, rfl, by rw [sS_len]; omega⟩, fun r hr => ?_⟩))))))
    obtain ⟨t', rfl, pt⟩ := perm_map (f := D.str) (hr _ rfl) (l := t) rfl
    refine ⟨L ++ [t'], by simp [lsD, sS], ?_⟩
    rw [List.take_add_one, ht]
    exact mx.step pt
  rintro acc ⟨L, rfl, mx⟩
  rw [lsl, List.take_length] at mx
  refine wg_name ?_
  show WS _ _ [.da .pot, .da (.int 2), .da (.int 2), .da (.int way), .no, .da (.lst (endsD Ed)), .no, .da (.lst (lsD L)), .no, .da (.lst (dPs tr)), .no, .no, .no, .no, .no, .no, .no, .no] _
  have Ll := mx.ln
  have Lf := mx.pm.length_eq
  have Lnd : L.flatten.Nodup := mx.pm.nodup_iff.mpr tnd
  have Lok : ∀ s ∈ L.flatten, nameS s := fun s hs => tok s (mx.pm.mem_iff.mp hs)
  have Lr : ∀ p ∈ tr, ordP p = p ∧ p.1 ≠ p.2 ∧ ∃ t ∈ L, p.1 ∈ t ∧ p.2 ∈ t := fun p hp => by
    obtain ⟨a, b, t, ht, c, d⟩ := rp p hp
    obtain ⟨x, hx, e⟩ := mx.fw t ht
    exact ⟨a, b, x, hx, e.mem_iff.mpr c, e.mem_iff.mpr d⟩
  have Lb : ∀ t ∈ L, 1 ≤ t.length ∧ t.length ≤ 60 := fun t ht => by
    obtain ⟨x, hx, e⟩ := mx.bw t ht
    have h1 := List.length_pos_iff.mpr (tne x hx)
    have h2 := e.length_eq
    have h3 := len_mem ht
    omega
  -- the bonds
  have edl : (endsD Ed).length = 6 := by unfold endsD; rw [List.length_map]; exact ed.ln
  refine ws_seq (ws_asg (WO.we (wo_lc (go_tup2 (by simp) (by simp)) (wi_list (we_var rfl ⟨_, rfl, by rw [edl]; decide, fun i acc => ∃ bs, acc = dPs bs ∧ Bnd L tr (Ed.take i) bs, ⟨[], rfl, tree_fit rn Lr⟩, ?_, ?_⟩)))))
  · rintro j d acc hd ⟨bs, rfl, bn⟩
    obtain ⟨e, he, rfl⟩ : ∃ e, Ed[j]? = Option.some e ∧ endD e = d := by
      unfold endsD at hd
      rw [List.getElem?_map] at hd
      exact Option.map_eq_some_iff.mp hd
    obtain ⟨lt1, lt2⟩ := ed.lt e (List.mem_of_getElem? he)
    refine wg_tup2 (wg_name (wg_name (wt_yes ⟨fun _ => ?_, fun h => nomatch h⟩)))
    show WE _ _ [.da .pot, .da (.int 2), .da (.int 2), .da (.int way), .no, .da (.lst (endsD Ed)), .no, .da (.lst (lsD L)), .no, .da (.lst (dPs tr)), .no, .no, .no, .no, .da (.int (e.1 : Nat)), .da (.int (e.2 : Nat)), .no, .no] _
    refine we_call (wa_cons (we_call (wa_cons (we_var rfl (wa_cons (we_op (we_var rfl (we_var rfl (v2_ixLn (by omega) (by rw [lsl]; omega) fun d hd => ?_)))))))))
    obtain ⟨t1, rfl, ht1⟩ := gls _ _ _ hd
    rw [Int.toNat_natCast] at ht1
    obtain ⟨b1, b2⟩ := Lb t1 (List.mem_of_getElem? ht1)
    refine wa_nil ⟨⟨_, rfl, by rw [sS_len]; omega, by rw [sS_len]; omega⟩, fun d hd => ?_⟩
    obtain ⟨x, hx, rfl⟩ := sS_mem (hd _ rfl)
    refine wa_cons (we_call (wa_cons (we_var rfl (wa_cons (we_op (we_var rfl (we_var rfl (v2_ixLn (by omega) (by rw [lsl]; omega) fun d hd => ?_))))))))
    obtain ⟨t2, rfl, ht2⟩ := gls _ _ _ hd
    rw [Int.toNat_natCast] at ht2
    obtain ⟨b3, b4⟩ := Lb t2 (List.mem_of_getElem? ht2)
    refine wa_nil ⟨⟨_, rfl, by rw [sS_len]; omega, by rw [sS_len]; omega⟩, fun d hd => ?_⟩
    obtain ⟨y, hy, rfl⟩ := sS_mem (hd _ rfl)
    refine wa_nil ⟨⟨x, y, rfl⟩, fun r hr => ?_⟩
    rw [hr x y rfl]
    refine ⟨bs ++ [ordP (x, y)], by simp [dPs], ?_⟩
    rw [List.take_add_one, he]
    exact bn.step Lnd (fun p hp => (Lr p hp).2.2) (fun e' h' => (ed.lt e' (List.mem_of_mem_take h')).1) (not_take ed.nd he) lt1 ⟨t1, t2, x, y, ht1, ht2, hx, hy, rfl⟩
  rintro acc ⟨bs, rfl, bn⟩
  rw [edl, ← ed.ln, List.take_length] at bn
  have bl := bn.ln
  rw [ed.ln] at bl
  have fit := bn.F
  refine wg_name ?_
  show WS _ _ [.da .pot, .da (.int 2), .da (.int 2), .da (.int way), .no, .da (.lst (endsD Ed)), .no, .da (.lst (lsD L)), .da (.lst (dPs bs)), .da (.lst (dPs tr)), .no, .no, .no, .no, .no, .no, .no, .no] _
  refine ws_seq (ws_tup2 (wf_da (WO.we (wo_call (wa_cons (we_var rfl (wa_nil ⟨⟨L, rfl, by omega, by omega⟩, fun r hr => ?_⟩)))))))
  obtain rfl := hr L rfl
  refine wf_da (WO.we (wo_op (we_var rfl (we_var rfl (v2o_cat (by rw [dPs_len, dPs_len]; omega) ?_)))))
  rw [show dPs tr ++ dPs bs = dPs (tr ++ bs) by simp [dPs]]
  have L0 : 1 ≤ L.flatten.length ∧ L.flatten.length ≤ 7 := by omega
  have q0 : (tr ++ bs).length ≤ 8 := by rw [List.length_append]; omega
  generalize L.flatten = sp0 at fit Lnd Lok L0
  generalize tr ++ bs = q at fit q0
  show WS _ _ [.da .pot, .da (.int 2), .da (.int 2), .da (.int way), .no, .da (.lst (endsD Ed)), .no, .da (.lst (lsD L)), .da (.lst (dPs bs)), .da (.lst (dPs tr)), .no, .no, .da (.lst (sS sp0)), .da (.lst (dPs q)), .no, .no, .no, .no] _
  -- the extras
  refine ws_seq (ws_for (wi_range1 (wa_cons (we_call (wa_cons (we_var rfl (wa_cons (we_op (we_var rfl (we_int (v2_I0 (wa_nil ⟨⟨3, rfl, by omega, by omega⟩, fun d hd => ?_⟩))))))))))))
  obtain ⟨t, rfl, t0, t1⟩ := hd _ rfl
  refine wa_nil ⟨t, rfl, by omega, by omega, fun i Γ1 => ∃ sp ps e6 e14 e15, Γ1 = [.da .pot, .da (.int 2), .da (.int 2), .da (.int way), .no, .da (.lst (endsD Ed)), e6, .da (.lst (lsD L)), .da (.lst (dPs bs)), .da (.lst (dPs tr)), .no, .no, .da (.lst (sS sp)), .da (.lst (dPs ps)), e14, e15, .no, .no] ∧
    Fit sp ps ∧ sp.Nodup ∧ (∀ s ∈ sp, nameS s) ∧ 1 ≤ sp.length ∧ sp.length ≤ 7 + i ∧ ps.length ≤ 8 + i, ⟨sp0, q, _, _, _, rfl, fit, Lnd, Lok, L0.1, L0.2, q0⟩, ?_, ?_⟩
  · rintro i d Γ1 hd ⟨sp, ps, e6, e14, e15, rfl, fit, nd, ok, s1, s2, p2⟩
    obtain ⟨rfl, hi⟩ := intsD_inv hd
    refine wg_name ?_
    show WS _ _ [.da .pot, .da (.int 2), .da (.int 2), .da (.int way), .no, .da (.lst (endsD Ed)), .da (.int (i : Nat)), .da (.lst (lsD L)), .da (.lst (dPs bs)), .da (.lst (dPs tr)), .no, .no, .da (.lst (sS sp)), .da (.lst (dPs ps)), e14, e15, .no, .no] _
    refine ws_seq (ws_asg (we_call (wa_cons (we_var rfl (wa_cons (we_var rfl (wa_nil ⟨⟨_, rfl, by rw [sS_len]; omega, by rw [sS_len]; omega⟩, fun d hd => ?_⟩)))))))
    obtain ⟨a, ha, rfl⟩ := sS_mem (hd _ rfl)
    refine wg_name ?_
    show WS _ _ [.da .pot, .da (.int 2), .da (.int 2), .da (.int way), .no, .da (.lst (endsD Ed)), .da (.int (i : Nat)), .da (.lst (lsD L)), .da (.lst (dPs bs)), .da (.lst (dPs tr)), .no, .no, .da (.lst (sS sp)), .da (.lst (dPs ps)), .da (.str a), e15, .no, .no] _
    refine ws_seq (ws_asg (WE.imp (R := fun d => ∃ b, d = .str b ∧ nameS b) (we_if (wt_test (we_op (we_call (wa_cons (we_var rfl (wa_cons (we_int (wa_nil ⟨⟨2, rfl, by omega, by omega⟩, fun d hd => ?_⟩))))))))) ?_))
    · obtain ⟨j, rfl, _, _⟩ := hd _ rfl
      refine we_int (v2_eqII ⟨_, rfl, fun _ => ?_, fun _ => ?_⟩)
      · refine we_call (wa_cons (we_var rfl (wa_cons (we_var rfl (wa_nil ⟨⟨_, rfl, by rw [sS_len]; omega, by rw [sS_len]; omega⟩, fun d hd => ?_⟩)))))
        obtain ⟨b, hb, rfl⟩ := sS_mem (hd _ rfl)
        exact ⟨b, rfl, ok b hb⟩
      · exact we_fresh rfl (we_var rfl ⟨sp, rfl, by omega, fun y h1 h2 => ⟨y, rfl, h1⟩⟩)
    rintro d ⟨b, rfl, okb⟩
    refine wg_name ?_
    show WS _ _ [.da .pot, .da (.int 2), .da (.int 2), .da (.int way), .no, .da (.lst (endsD Ed)), .da (.int (i : Nat)), .da (.lst (lsD L)), .da (.lst (dPs bs)), .da (.lst (dPs tr)), .no, .no, .da (.lst (sS sp)), .da (.lst (dPs ps)), .da (.str a), .da (.str b), .no, .no] _
    have oka := (ok a ha)
    have okQ : ∀ p ∈ ps, PyData.strOk p.1 = true ∧ PyData.strOk p.2 = true := fun p hp => ⟨name_strOk (ok _ (fit.pk p hp).2.2.1).1, name_strOk (ok _ (fit.pk p hp).2.2.2).1⟩
    refine ws_if (WT.imp (R := fun t => t = true → a ≠ b ∧ ordP (a, b) ∉ ps) (wt_and (wt_test (we_op (we_var rfl (we_var rfl (v2_neD (ok_str 10 (name_strOk oka.1)) (ok_str 10 (name_strOk okb.1)) rfl rfl fun b' hb' => ⟨_, rfl, fun h => ?_, fun _ z => (nomatch z)⟩)))))) fun t ht => ⟨fun h => ?_, fun _ => ws_next ⟨sp, ps, _, _, _, rfl, fit, nd, ok, s1, by omega, by omega⟩⟩)
    · have ne : a ≠ b := fun e => by
        rw [hb'.mpr (by rw [e])] at h
        cases h
      refine wt_test (we_op (we_call (wa_cons (we_var rfl (wa_cons (we_var rfl (wa_nil ⟨⟨a, b, rfl⟩, fun d hd => ?_⟩)))))))
      obtain rfl := hd a b rfl
      have oo : PyData.strOk (ordP (a, b)).1 = true ∧ PyData.strOk (ordP (a, b)).2 = true := by
        rcases ordP_ends (a, b) with e | e <;> rw [e]
        · exact ⟨name_strOk oka.1, name_strOk okb.1⟩
        · exact ⟨name_strOk okb.1, name_strOk oka.1⟩
      refine we_var rfl (v2_ninD (ok_dP 9 oo.1 oo.2) (ok_dPs (n := 9) okQ) (nob_dP _) (nob_dPs ps) fun c hc => ⟨_, rfl, fun h => ⟨ne, ?_⟩⟩)
      have ec := D_any_dPs hc
      rw [ec] at h
      simpa using h
    obtain ⟨ne, nin⟩ := ht h
    refine ws_seq (ws_asg (WO.we (wo_op (we_var rfl (WO.we (wo_lst (wa_cons (we_call (wa_cons (we_var rfl (wa_cons (we_var rfl (wa_nil ⟨⟨a, b, rfl⟩, fun d hd => ?_⟩)))))))))))))
    obtain rfl := hd a b rfl
    refine wa_nil ⟨by show (1 : Nat) ≤ 1000; decide, v2o_cat (by rw [dPs_len]; show ps.length + 1 ≤ 10000; omega) (wg_name ?_)⟩
    rw [show dPs ps ++ [dP (ordP (a, b))] = dPs (ps ++ [ordP (a, b)]) by simp [dPs]]
    show WS _ _ [.da .pot, .da (.int 2), .da (.int 2), .da (.int way), .no, .da (.lst (endsD Ed)), .da (.int (i : Nat)), .da (.lst (lsD L)), .da (.lst (dPs bs)), .da (.lst (dPs tr)), .no, .no, .da (.lst (sS sp)), .da (.lst (dPs (ps ++ [ordP (a, b)]))), .da (.str a), .da (.str b), .no, .no] _
    refine ws_asg (WO.we (wo_op (we_var rfl (WO.we (wo_filt (f := D.str) (l := [b]) (fun x => !decide (x ∈ sp)) (by show 17 < 18; decide) (wi_list (WO.we (wo_lst (wa_cons (we_var rfl (wa_nil ⟨by show (1 : Nat) ≤ 1000; decide, _, rfl, rfl, by show (1 : Nat) ≤ 5000; decide⟩)))))) (fun x hx => ?_) (v2o_cat ?_ (wg_name ?_)))))))
    · show WT _ _ [.da .pot, .da (.int 2), .da (.int 2), .da (.int way), .no, .da (.lst (endsD Ed)), .da (.int (i : Nat)), .da (.lst (lsD L)), .da (.lst (dPs bs)), .da (.lst (dPs tr)), .no, .no, .da (.lst (sS sp)), .da (.lst (dPs (ps ++ [ordP (a, b)]))), .da (.str a), .da (.str b), .no, .da (.str x)] _
      exact wt_test (we_op (we_var rfl (we_var rfl (v2_inL ⟨_, rfl, rfl⟩))))
    · have := List.length_filter_le (fun x => !decide (x ∈ sp)) [b]
      rw [sS_len, List.length_map]
      rw [List.length_singleton] at this
      omega
    have key : ∃ sp', sS sp ++ (([b].filter fun x => !decide (x ∈ sp)).map D.str) = sS sp' ∧ sp'.Nodup ∧ (∀ s ∈ sp', nameS s) ∧ (∀ s ∈ sp, s ∈ sp') ∧ b ∈ sp' ∧ sp.length ≤ sp'.length ∧ sp'.length ≤ sp.length + 1 := by
      by_cases hb : b ∈ sp
      · refine ⟨sp, ?_, nd, ok, fun _ h => h, hb, Nat.le_refl _, by omega⟩
        rw [List.filter_cons, if_neg (by simp [hb])]
        simp
      · refine ⟨sp ++ [b], ?_, ?_, fun s hs => ?_, fun s hs => List.mem_append_left _ hs, List.mem_append_right _ (List.mem_singleton.mpr rfl), by rw [List.length_append]; omega, by rw [List.length_append]; exact Nat.le_refl _⟩
        · rw [List.filter_cons, if_pos (by simp [hb])]
          simp [sS]
        · exact List.nodup_append.mpr ⟨nd, by simp, fun x hx y hy e => by rw [List.mem_singleton.mp hy] at e; exact hb (e ▸ hx)⟩
        · rcases List.mem_append.mp hs with h | h
          · exact ok s h
          · rw [List.mem_singleton.mp h]; exact okb
    obtain ⟨sp', e', nd', ok', sub, hb, g1, g2⟩ := key
    rw [e']
    exact ⟨sp', ps ++ [ordP (a, b)], _, _, _, rfl, (fit.grow sub).snoc (ordP_fit ne (sub a ha) hb) nin, nd', ok', by omega, by omega, by rw [List.length_append]; show ps.length + 1 ≤ _; omega⟩
  · rintro Γ1 ⟨sp, ps, e6, e14, e15, rfl, fit, nd, ok, s1, s2, p2⟩
    rw [intsD_len] at s2 p2
    refine ws_ret (we_tup (wa_cons (we_model (i := 12) (j := 13) rfl rfl (by omega) (by omega) (wa_cons (we_var rfl (wa_cons (we_var rfl (wa_cons (we_var rfl (wa_nil ⟨by show (4 : Nat) ≤ 1000; decide, ?_⟩))))))))))
    refine ⟨_, _, _, _, rfl, ⟨_, _, rfl, mdl_of s1 nd ok fit, by rw [srtS_len]; omega, by rw [srtP_len]; omega⟩, ?_⟩
    show (((D.plainAll (sS (srtS sp))) && (D.plainAll (dPs (srtP ps)) && true)) && (D.plainAll (lsD L) && (D.plainAll (dPs tr) && (D.plainAll (dPs bs) && true)))) = true
    rw [plain_sS, plain_dPs, plain_lsD, plain_dPs, plain_dPs]
    rfl
end
end K11


/-! K11AN: _law_drawn. -/
namespace K11
open PySem PySem.Spec PyProof.Rows L2
local macro_rules | `(tactic| walk_at "w") => `(tactic| (first
  | (with_reducible refine ws_seq ?_)
  | (with_reducible refine ws_ret ?_)
  | (with_reducible refine ws_if ?_)
  | (with_reducible refine ws_asg ?_)
  | (with_reducible refine ws_break ?_)
  | (with_reducible refine ws_drop ?_)
  | (with_reducible refine we_var (by with_unfolding_all rfl) ?_)
  | (with_reducible refine we_int ?_)
  | (with_reducible refine we_str ?_)
  | (with_reducible refine we_bl ?_)
  | (with_reducible refine we_non ?_)
  | (with_reducible refine we_ty ?_)
  | (with_reducible refine we_cls ?_)
  | (with_reducible refine wa_cons ?_)
  | (with_reducible refine wa_nil ?_)
  | (with_reducible refine we_cb ?_)
  | (with_reducible refine vc_lenL ?_)
  | (with_reducible refine vc_lenT ?_)
  | (with_reducible refine v2_B0 ?_)
  | (with_reducible refine v2_I0 ?_)
  | (with_reducible refine we_call ?_)
  | (with_reducible refine we_op ?_)
  | (with_reducible refine we_tup ?_)
  | (with_reducible refine we_if ?_)
  | (with_reducible refine we_chain ?_)
  | (with_reducible refine wt_test ?_)
  | (with_reducible refine wt_B ?_)
  | (with_reducible refine wt_not ?_)
  | (with_reducible refine wt_or ?_)
  | (with_reducible refine wt_and ?_)))


theorem ModR.mono {n m n' m' : Nat} {d : D} (h : ModR n m d) (h1 : n ≤ n') (h2 : m ≤ m') : ModR n' m' d := by
  obtain ⟨sp, ps, e, m, a, b⟩ := h
  exact ⟨sp, ps, e, m, by omega, by omega⟩
section
variable {P : Program} {w : World} {K : PySem.W.Frag} {mg : Str → Option Value} {base : Heap} {C : Addr}
abbrev sDrawn : Stmt := top 47
abbrev nDrawn : List Str := ["_law_pot_here", "_law_way"]
theorem scDrawn : FnScope nDrawn ["_law_pot_here"] (defScope sDrawn) := ⟨rfl, rfl, rfl, by decide +kernel, rfl, by decide +kernel, by decide +kernel⟩
theorem cl_drawn (F : Fd K mg "_law_drawn" ["_law_pot_here"] sDrawn) (M : Mb mg) (c_draw : CDraw P w K mg base C) (c_knotted : CKnotted P w K mg base C)
    (c_outside : Cl P w K mg base 3 "_law_outside" ["_law_pot_here", "_law_most"] (SpD K C (fun ds => ds = [.pot, .int 9]) fun _ d => ModR 9 96 d))
    (c_any : Cl P w K mg base 3 "_law_any" ["_law_pot_here", "_law_most", "_law_size"] (SpD K C (fun ds => ds = [.pot, .int 8, .int 10]) fun _ d => ModR 8 10 d)) : CDrawn P w K mg base C := F.cl fun f fd F => by
  refine fnD F scDrawn (fun ds e => by rw [show ds = [.pot] from e]; rfl) fun cdv A outer s H E hr => ?_
  refine ⟨_, (pss_cons (ps_set (i := 1) scDrawn.nd rfl (by first | exact Or.inl rfl | exact Or.inr rfl) (pcl c_draw (hr.mono (by decide)) (pa_cons (pv 0) (pa_cons pe_int pa_nil))))
    (pss_cons (ps_if (pt_cmpR op_eq (pv 1) pe_int (nomark _)) (pss_one (ps_ret (pcl c_outside (hr.mono (by decide)) (pa_cons (pv 0) (pa_cons pe_int pa_nil))))) pss_nil)
    (pss_cons (ps_if (pt_cmpR op_eq (pv 1) pe_int (nomark _)) (pss_one (ps_ret (pe_ix ix_tup (pcl c_knotted (hr.mono (by decide)) (pa_cons (pv 0) (pa_cons pe_int (pa_cons pe_int pa_nil)))) pe_int (fun _ _ => rfl)))) pss_nil)
    (pss_one (ps_ret (pcl c_any (hr.mono (by decide)) (pa_cons (pv 0) (pa_cons pe_int (pa_cons pe_int pa_nil))))))))), fun pot old M H ds hp => ?_⟩
  obtain rfl : ds = [.pot] := hp
  dsimp only [cxOf, Cx.nox, Cx.wish]
  show WS _ _ [.da .pot, .no] _
  refine ws_seq (ws_asg (we_call (wa_cons (we_var rfl (wa_cons (we_int (wa_nil ⟨⟨3, rfl, by omega, by omega⟩, fun d hd => ?_⟩)))))))
  obtain ⟨way, rfl, w0, w1⟩ := hd _ rfl
  refine wg_name ?_
  show WS _ _ [.da .pot, .da (.int way)] _
  refine ws_seq (ws_if (wt_test (we_op (we_var rfl (we_int (v2_eqII ⟨_, rfl, fun h => ?_, fun h => ws_next ?_⟩))))))
  · exact ws_ret (we_call (wa_cons (we_var rfl (wa_cons (we_int (wa_nil ⟨rfl, fun d hd => hd⟩))))))
  refine ws_seq (ws_if (wt_test (we_op (we_var rfl (we_int (v2_eqII ⟨_, rfl, fun h => ?_, fun h => ws_next ?_⟩))))))
  · refine ws_ret (we_op (we_call (wa_cons (we_var rfl (wa_cons (we_int (wa_cons (we_int (wa_nil ⟨rfl, fun d hd => ?_⟩)))))))))
    obtain ⟨m, x, y, z, rfl, hm, _⟩ := hd
    exact we_int (v2_ixTn (by decide) (by show (0 : Int) < 4; decide) fun d hd => by
      cases hd
      exact hm.mono (by decide) (by decide))
  · exact ws_ret (we_call (wa_cons (we_var rfl (wa_cons (we_int (wa_cons (we_int (wa_nil ⟨rfl, fun d hd => hd.mono (by decide) (by decide)⟩))))))))
end
end K11


/-! K11AO: _law_pot, law. -/
namespace K11
open PySem PySem.Spec PyProof.Rows L2
local macro_rules | `(tactic| walk_at "w") => `(tactic| (first
  | (with_reducible refine ws_seq ?_)
  | (with_reducible refine ws_ret ?_)
  | (with_reducible refine ws_if ?_)
  | (with_reducible refine ws_asg ?_)
  | (with_reducible refine ws_break ?_)
  | (with_reducible refine ws_drop ?_)
  | (with_reducible refine we_var (by with_unfolding_all rfl) ?_)
  | (with_reducible refine we_int ?_)
  | (with_reducible refine we_str ?_)
  | (with_reducible refine we_bl ?_)
  | (with_reducible refine we_non ?_)
  | (with_reducible refine we_ty ?_)
  | (with_reducible refine we_cls ?_)
  | (with_reducible refine wa_cons ?_)
  | (with_reducible refine wa_nil ?_)
  | (with_reducible refine we_cb ?_)
  | (with_reducible refine vc_lenL ?_)
  | (with_reducible refine vc_lenT ?_)
  | (with_reducible refine v2_B0 ?_)
  | (with_reducible refine v2_I0 ?_)
  | (with_reducible refine we_call ?_)
  | (with_reducible refine we_op ?_)
  | (with_reducible refine we_tup ?_)
  | (with_reducible refine we_if ?_)
  | (with_reducible refine we_chain ?_)
  | (with_reducible refine wt_test ?_)
  | (with_reducible refine wt_B ?_)
  | (with_reducible refine wt_not ?_)
  | (with_reducible refine wt_or ?_)
  | (with_reducible refine wt_and ?_)))


/-- a pot is made for the k-th cell of the script -/
def spPot (K : PySem.W.Frag) : Sp := fun vs H Q _ => ∃ (a : Addr) (ns : List Int) (k : Int), vs = [.ref a, .int k] ∧ SqL K H a (ns.map V.int) ∧ ns.length ≤ 63 ∧ 0 ≤ k ∧ k ≤ 3 ∧ ∀ (p : Addr) (x y : Int), 0 ≤ y → y < 2147483648 → H p = none → Q (.ref p) (upd H p (.lst [.int x, .int y]))
def spLawG (K : PySem.W.Frag) : Sp := fun vs H Q _ => ∃ (a : Addr) (ns : List Int), vs = [.ref a] ∧ SqL K H a (ns.map V.int) ∧ ns.length ≤ 63 ∧ ∀ H', Q (.bl true) H'
theorem pow3 {k : Int} (h0 : 0 ≤ k) (h1 : k ≤ 3) : ∃ c : Int, (2 * k + 3) ^ (3 : Int).toNat = c ∧ 0 ≤ c ∧ c ≤ 729 ∧ CPow (2 * k + 3) 3 := by
  have e : k = 0 ∨ k = 1 ∨ k = 2 ∨ k = 3 := by omega
  rcases e with rfl | rfl | rfl | rfl <;> exact ⟨_, rfl, by decide, by decide, by decide, by decide, by decide⟩
section
variable {P : Program} {w : World} {K : PySem.W.Frag} {mg : Str → Option Value} {base : Heap} {C : Addr}
abbrev sPot : Stmt := top 32
abbrev nPot : List Str := ["_law_script", "_law_k", "_law_cell"]
theorem scPot : FnScope nPot ["_law_script", "_law_k"] (defScope sPot) := ⟨rfl, rfl, rfl, by decide +kernel, rfl, by decide +kernel, by decide +kernel⟩
theorem cl_pot (F : Fd K mg "_law_pot" ["_law_script", "_law_k"] sPot) (M : Mb mg) : Cl P w K mg base 1 "_law_pot" ["_law_script", "_law_k"] (spPot K) := F.cl fun f fd F => by
  refine F.ok scPot (fun vs H Q E ⟨a, ns, k, e, _⟩ => by rw [e]; rfl) fun cdv A outer s H vs Q E hr h => ?_
  obtain ⟨a, ns, k, rfl, hS, hl, k0, k1, q⟩ := h
  refine ⟨_, (pss_cons (ps_set (i := 2) scPot.nd rfl (by first | exact Or.inl rfl | exact Or.inr rfl) (pe_op op_add (pe_op op_mul pe_int (pv 1)) pe_int))
    (pss_cons (ps_if (pt_cmpR op_lt (pv 1) (pe_callB call_len2 (by rfl) M.len PySem.boot_len (pa_cons (pv 0) pa_nil)) (nomark _)) (pss_one (ps_set (i := 2) scPot.nd rfl (by first | exact Or.inl rfl | exact Or.inr rfl) (pe_callB call_abs (by rfl) M.abs (by decide +kernel) (pa_cons (pe_ix ix_list (pv 0) (pv 1) (fun _ _ => rfl)) pa_nil)))) pss_nil)
    (pss_one (ps_ret (pe_lst (pa_cons (pe_callB (call_max2 rfl) (by rfl) M.max (by decide +kernel) (pa_cons pe_int (pa_cons (pe_op op_sub (pv 2) (pe_op op_pow pe_int pe_int)) pa_nil))) (pa_cons (pe_op op_add (pe_op op_mod (pe_op op_mul (pe_callTy call_int1 (by rfl) M.int (by decide +kernel) (pa_cons (pe_op op_add (pe_op op_mod (pe_callTy call_int1 (by rfl) M.int (by decide +kernel) (pa_cons (pv 2) pa_nil)) pe_int) pe_int) pa_nil)) (pe_op op_pow (pe_op op_add (pe_op op_mul pe_int (pv 1)) pe_int) pe_int)) pe_int) pe_int) pa_nil))))))), ?_⟩
  dsimp only [cxOf, Cx.nox, Cx.wish]
  obtain ⟨c3, e3, c0, c1, cp⟩ := pow3 k0 k1
  have c29 : CMul 29 k := .inl ⟨by decide, by decide⟩
  refine ⟨.int k, rfl, 29, k, rfl, rfl, c29, 29 * k, 8, rfl, rfl, ?_⟩
  show tSeq _ _ _ [some (.ref a), some (.int k), some (.int (29 * k + 8))] H
  refine ⟨.int k, rfl, .ref a, rfl, a, _, rfl, .inl hS, k, _, rfl, rfl, _, rfl, ?_⟩
  refine ite2 (fun hk => ?hA) (fun hk => ?hB)
  case' hA =>
    have hk' : k < ns.length := by
      have := of_decide_eq_true hk
      rwa [List.length_map] at this
    obtain ⟨z, hz⟩ : ∃ z, ns[k.toNat]? = Option.some z := ⟨_, List.getElem?_eq_getElem (by omega)⟩
    have at_ : atI (ns.map V.int) k = Option.some (.int z) := by
      have e : (k.toNat : Int) = k := Int.toNat_of_nonneg k0
      rw [← e]
      exact atI_nat (by rw [List.getElem?_map, hz]; rfl)
    refine ⟨.ref a, rfl, .int k, rfl, a, _, k, _, rfl, rfl, hS, at_, z, rfl, ?_⟩
    generalize (if z < 0 then -z else z) = c
  case' hB =>
    generalize 29 * k + 8 = c
  all_goals
    have m1 : CMul (c % 2147483549 + 7) ((2 * k + 3) ^ (3 : Int).toNat) := by rw [e3]; exact .inr ⟨by omega, by omega⟩
    have m2 : CMul 2 k := .inl ⟨by decide, by decide⟩
    have p1 : CPow 10 18 := ⟨by decide, by decide, by decide⟩
    refine ⟨.int c, rfl, 10, 18, rfl, rfl, p1, c, _, rfl, rfl, 0, _, rfl, ?_⟩
    refine ⟨.int c, rfl, .inl ⟨c, rfl, c, 2147483549, rfl, rfl, (by show (0 : Int) < 2147483549; decide), _, 7, rfl, rfl, .inl ⟨_, rfl, .int k, rfl, 2, k, rfl, rfl, m2, _, 3, rfl, rfl, _, 3, rfl, rfl, cp, ?_⟩⟩⟩
    refine ⟨_, _, rfl, rfl, m1, _, 2147483477, rfl, rfl, (by show (0 : Int) < 2147483477; decide), _, 1, rfl, rfl, ?_⟩
    refine ⟨(by show (2 : Nat) ≤ sizeLine; decide), fun p hp => q p _ _ ?_ ?_ hp⟩
    · exact Int.add_nonneg (Int.emod_nonneg _ (by decide)) (by decide)
    · exact Int.lt_trans (Int.add_lt_add_right (Int.emod_lt_of_pos _ (by decide)) 1) (by decide)

abbrev sLaw : Stmt := top 55
abbrev nLaw : List Str := ["_law_script", "_law_k"]
theorem scLaw : FnScope nLaw ["_law_script"] (defScope sLaw) := ⟨rfl, rfl, rfl, by decide +kernel, rfl, by decide +kernel, by decide +kernel⟩
theorem gfn_law {f : Addr} {fd : FuncData} (F : FunX K "law" "law" sLaw f fd) (M : Mb mg) (c_pot : Cl P w K mg base 1 "_law_pot" ["_law_script", "_law_k"] (spPot K)) (g_right : GCl P w K mg base 8 "_law_right" ["_law_pot_here"] (SpD K C preR fun _ d => d = .bl true)) :
    GFn P w K mg base 9 f fd ["_law_script"] (spLawG K) := by
  refine gfn_of F scLaw (fun vs H Q E ⟨a, ns, e, _⟩ => by rw [e]; rfl) fun cdv A outer s H vs Q E hr hg h => ?_
  obtain ⟨a, ns, rfl, hS, hl, q⟩ := h
  refine ⟨_, (pss_one (ps_ret (pe_callB (cr_all rfl) (by rfl) M.all (by decide +kernel) (pa_cons (pe_lc (own := [("_law_k", 1)]) (by rfl) scLaw.nd (pi_range1 (by rfl) M.range (pa_cons (pe_callB (call_max2 rfl) (by rfl) M.max (by decide +kernel) (pa_cons pe_int (pa_cons (pe_callB (call_min2 rfl) (by rfl) M.min (by decide +kernel) (pa_cons pe_int (pa_cons (pe_callB call_len2 (by rfl) M.len PySem.boot_len (pa_cons (pv 0) pa_nil)) pa_nil))) pa_nil))) pa_nil)) (blkOk_by (N := nLaw) (sc := defScope sLaw) (by decide +kernel)) (fun _ _ _ _ _ => (pg_name (i := 1) scLaw.nd rfl (by first | exact Or.inl rfl | exact Or.inr rfl))) (fun _ _ _ _ _ => pts_nil) (fun _ _ _ _ _ => (by exact pgcl g_right (hr.mono (by decide)) hg (pa_cons (by exact pcl c_pot (hr.mono (by decide)) (pa_cons (pv 0) (pa_cons (pv 1) pa_nil))) pa_nil)))) pa_nil)))), ?_⟩
  dsimp only [cxOf, Cx.nox, Cx.wish]
  show tCB (rAll K) _ [some (.ref a), none] H Q
  refine ⟨.ref a, rfl, a, _, rfl, .inl hS, 4, _, rfl, 1, _, rfl, ?_⟩
  rw [List.length_map]
  have hn : ∃ n : Int, (if (if (ns.length : Int) < 4 then (ns.length : Int) else 4) > 1 then (if (ns.length : Int) < 4 then (ns.length : Int) else 4) else 1) = n ∧ 1 ≤ n ∧ n ≤ 4 := by
    refine ⟨_, rfl, ?_, ?_⟩ <;> repeat (first | split | omega)
  obtain ⟨n, en, n1, n4⟩ := hn
  rw [en]
  refine ⟨n, rfl, by omega, by omega, fun D hD => ?_⟩
  refine lc_it walk_range (fun i H' => Same H H' ∧ H' D = some (.lst ((List.replicate i true).map V.bl))) ⟨fun b o e => by rw [upd_ne (ne_of_none e hD)]; exact e, upd_same⟩ (fun _ _ _ _ => trivial) ?_ ?_
  · rintro i x H1 H2 hi ⟨sm, hD1⟩ ⟨e1, e2⟩
    subst e1 e2
    refine ⟨rfl, ?_⟩
    refine ⟨.ref a, rfl, .int (0 + (i : Nat)), rfl, a, ns, _, rfl, sm.seq hS, hl, by omega, by omega, fun p x y y0 y1 hp => ?_⟩
    have nD : D ≠ p := ne_of_none hD1 hp
    refine ⟨p, fun _ => False, fun b => b = p, [.pot], ⟨⟨x, y, upd_same, y0, y1⟩, rfl, fun m e => by rw [e, upd_same]; exact fun z => (nomatch z), fun m xs e => by rw [e, upd_same]; exact fun z => (nomatch z)⟩, .cons .pot .nil, rfl, fun v H' d pt fx r hd => ?_⟩
    subst hd
    obtain rfl := r.bl_inv
    have k : ∀ b o, H2 b = some o → H' b = some o := fun b o e => by
      have nb : b ≠ p := ne_of_none e hp
      exact fx.ext b o nb (by rw [upd_ne nb]; exact e)
    refine ⟨_, k D _ hD1, by rw [List.length_map, List.length_replicate]; exact Nat.lt_of_le_of_lt (show i ≤ 5000 by omega) (by decide), fun b o e => ?_, ?_⟩
    · rw [upd_ne (ne_of_none e hD)]
      exact k b o (sm b o e)
    · rw [upd_same, List.replicate_succ', List.map_append]; rfl
  · rintro H' ⟨sm, hD'⟩
    refine ⟨D, List.replicate n.toNat true, rfl, .of hD', ?_⟩
    have e : (List.replicate n.toNat true).all id = true := by simp
    rw [e]
    exact q H'
end
end K11


/-! K11AP: the law's own call, its promise kept under guards. -/
namespace K11
open PySem PySem.Spec PyProof.Rows L2

theorem none_else {H : Hp} {a b : Addr} (only : ∀ b, H b ≠ none → b = a) (hb : b ≠ a) : H b = none := Classical.byContradiction fun z => hb (only b z)
abbrev GoodEnd (s : Shared) (r : Result) (t : Shared) : Prop := r = .ok (.ret (.bool true)) ∧ OldK s.heap t.heap ∧ t.os = s.os ∧ AllBare t.gens
section
variable {P : Program} {w : World} {K : PySem.W.Frag} {mg mb : Str → Option Value} {k : Nat} {fa a : Addr} {fd : FuncData} {x : Str} {s : Shared} {us : List Value} {ns : List Int} {H : Hp}
theorem glaw_core (inK : K.In s.heap) (nsG : s.heap.Ns mainGlobals mg) (nsB : s.heap.Ns builtinsNs mb) (bb : ∀ y : Str, y ≠ "__name__" → mb y = bootBuiltins y) (lim : s.heap.NoLimit) (gn : s.gens = #[])
    (at_ : s.heap.get? a = some { cls := .type "list", data := .seq us.toArray }) (len : ns.length ≤ 63) (room : Room k callerA) (F : ∀ b : Heap, K.In b → b.Ns mainGlobals mg → GFn P w K mg b k fa fd [x] (spLawG K)) (bnd : ∀ (t : Shared) (u : Value), BindsTo t fd ⟨[u], []⟩ [(x, u)])
    (only : ∀ b, H b ≠ none → b = a) (notK : H a ≠ none → K.lookup a = none) (fz : ∀ u, H a = some u → ∃ o z, u = .frz o (.lst z)) (hS : SqL K H a (ns.map V.int)) (hok : HOk P w H s.heap) :
    codeAny (model P w) callerA (.call (.ref fa) ⟨[.ref a], []⟩) (GoodEnd s) s := by
  have nsk : ∀ {c : Addr} {m : Str → Option Value}, s.heap.Ns c m → (hidT s.heap H).Ns c m := by
    rintro c m ⟨o, es, ep, g1, g2, g3⟩
    refine ⟨o, es, ep, hidT_get g1 (none_else only fun z => ?_), g2, g3⟩
    rw [z, at_] at g1
    cases g1
    cases g2
  have kin : K.In (hidT s.heap H) := fun b o g => hidT_get (inK b o g) (Classical.byContradiction fun z => by
    have q := notK (only b z ▸ z)
    rw [only b z, q] at g
    cases g)
  have md : Mod K mg (hidT s.heap H) := by
    obtain ⟨mc, l1, l2⟩ := lim
    exact { kin := kin, glob := nsk nsG, blt := ⟨mb, nsk nsB, bb⟩, nolimit := ⟨mc, nsk l1, l2⟩ }
  have env : Env0 P w K mg (hidT s.heap H) callerA [] s H :=
    { frames := rfl, mod := md, bs := fun _ _ g => of_hidT g, bsz := Nat.le_of_eq (hidT_size s.heap H), funs := trivial, frf := fun b h => (List.not_mem_nil (show b ∈ ([] : List Addr) from h)).elim, hok := hok, bare := .of_eq gn }
  have run := (F _ kin (nsk nsG)).run callerA [] s H ⟨[.ref a], []⟩ [.ref a] [.ref a] (fun v _ => v = .bl true) E0 room rfl env (bnd s (.ref a)) (.cons rfl .nil) ⟨a, ns, rfl, hS, len, fun _ => rfl⟩
  refine codeAny_mono run fun r t h => ?_
  match r, h with
  | .error _, h => exact False.elim h
  | .ok .next, h => exact False.elim h
  | .ok .brk, h => exact False.elim h
  | .ok .cont, h => exact False.elim h
  | .ok (.ret u), h =>
    obtain ⟨v, H', os, bare, un, hok', rel, q⟩ := h
    obtain rfl : v = .bl true := q
    obtain rfl : u = Value.bool true := rel
    refine ⟨rfl, OldK.of_keep fun b o g => ?_, os, bare⟩
    by_cases n : H b = none
    · exact un.keep b o g n (fun z => (List.not_mem_nil (show b ∈ ([] : List Addr) from z)).elim) (fun z => (List.not_mem_nil z).elim)
    · obtain rfl := only b n
      obtain ⟨y, hy⟩ := Option.ne_none_iff_exists'.mp n
      obtain ⟨ob, z, rfl⟩ := fz y hy
      have a1 := (hok _ _ hy).1
      have a2 := (hok' _ _ (un.frzs _ _ _ hy)).1
      rw [g] at a1
      cases a1
      exact a2
theorem glaw_call (inK : K.In s.heap) (nsG : s.heap.Ns mainGlobals mg) (nsB : s.heap.Ns builtinsNs mb) (bb : ∀ y : Str, y ≠ "__name__" → mb y = bootBuiltins y) (lim : s.heap.NoLimit) (gn : s.gens = #[])
    (at_ : s.heap.get? a = some { cls := .type "list", data := .seq us.toArray }) (whole : IntsAre us ns) (len : ns.length ≤ 63) (room : Room k callerA) (F : ∀ b : Heap, K.In b → b.Ns mainGlobals mg → GFn P w K mg b k fa fd [x] (spLawG K)) (bnd : ∀ (t : Shared) (u : Value), BindsTo t fd ⟨[u], []⟩ [(x, u)]) :
    codeAny (model P w) callerA (.call (.ref fa) ⟨[.ref a], []⟩) (GoodEnd s) s := by
  have rv := vals_ints whole
  have lu := whole.length
  have lz : ns.length ≤ sizeLine := Nat.le_trans len (by decide)
  by_cases hk : K.lookup a = none
  · let o : Obj := { cls := .type "list", data := .seq us.toArray }
    have e1 : (fun b : Addr => if b = a then some (HO.frz o (.lst (ns.map V.int))) else none) a = some (HO.frz o (.lst (ns.map V.int))) := if_pos rfl
    have e2 : ∀ b, b ≠ a → (fun b : Addr => if b = a then some (HO.frz o (.lst (ns.map V.int))) else none) b = none := fun b h => if_neg h
    generalize (fun b : Addr => if b = a then some (HO.frz o (.lst (ns.map V.int))) else none) = H at e1 e2
    refine glaw_core (H := H) inK nsG nsB bb lim gn at_ len room F bnd (fun b h => Classical.byContradiction fun z => h (e2 b z)) (fun _ => hk) (fun u h => ⟨o, _, Option.some.inj (h.symm.trans e1)⟩) (.inl (.inr ⟨o, e1⟩)) fun b u h => ?_
    by_cases z : b = a
    · subst z
      cases e1.symm.trans h
      exact ⟨at_, by rw [List.length_map]; exact lz, us, _, rv, at_⟩
    · rw [e2 b z] at h
      cases h
  · obtain ⟨o, ho⟩ := Option.ne_none_iff_exists'.mp hk
    have g := inK a o ho
    rw [at_] at g
    cases g
    exact glaw_core (H := fun _ => none) inK nsG nsB bb lim gn at_ len room F bnd (fun b h => absurd rfl h) (fun h => absurd rfl h) (fun u h => nomatch h) (.inr ⟨_, us.toArray, _, ho, rfl, rfl, rfl, by rw [List.size_toArray, lu]; exact lz, by simpa using rv⟩) fun b u h => nomatch h
end
/-- what the head leaves, from the law's promise under guards -/
theorem walk_ofG {l : PySem.W.OpenLaw} {k : Nat} {q : Program} {loose : List Str} {XP : (Str → Option Value) → Heap → Prop} {YP : World → Heap → Prop} {d : DefRec} {K : Params → PySem.W.Frag} {x : Str}
    (most : l.most = some 63) (dfl : d.params.defaults = []) (room : Room k callerA) (hY : ∀ (w : World) (h : Heap), YP w h → (K w.params).In h)
    (F : ∀ (w : World) (mg : Str → Option Value) (fa : Addr) (h : Heap), (K w.params).In h → h.Ns mainGlobals mg → mg d.name = some (.ref fa) →
      ∃ fd : FuncData, (∀ (s : Shared) (u : Value), BindsTo s fd ⟨[u], []⟩ [(x, u)]) ∧ ∀ b : Heap, (K w.params).In b → b.Ns mainGlobals mg → GFn l.prog w (K w.params) mg b k fa fd [x] (spLawG (K w.params))) :
    PySem.W.WalkO q loose XP YP l.row.toRowW d [] (fun f vs => PySem.call f vs) := by
  refine Att.attach_call most dfl fun w s₀ s mg mb fa o pm cd doc a us ns G Y ho hd hcd hm at_ whole len gn => ?_
  have inK := hY w _ Y
  obtain ⟨fd, bnd, hF⟩ := F w mg fa _ inK G.T.g hm
  exact glaw_call inK G.T.g G.T.b G.T.builtins G.T.nolimit gn at_ whole len room hF bnd
end K11

/-! K11AQ: the facts that the top leaves, all promises together. -/
namespace K11
open PySem PySem.Spec PyProof.Rows L2

theorem valsRev : ∀ {vs : List V} {us : List Value}, Vals vs us → Vals vs.reverse us.reverse
  | _, _, .nil => .nil
  | _, _, .cons r t => by
    rw [List.reverse_cons, List.reverse_cons]
    exact (valsRev t).append (.cons r .nil)
theorem kit_self {K : PySem.W.Frag} {C : Addr} : PySem.W.kitOne K (.ref C) (.ref C) = some true := if_pos (beq_self_eq_true _)
theorem kit_own {K : PySem.W.Frag} {C : Addr} {X : String} (i : PySem.W.isClsIn K C = true) (t : PySem.W.typeIn K (.ref C) = some (.type "type")) (s : PySem.W.subIn K (.type X) (.ref C) = some false) : PySem.W.kitOne K (.type X) (.ref C) = some false := by
  have h : PySem.W.kitCls K (.type X) (.ref C) = some false := (if_pos (by rw [show (PySem.W.clsIn K C).isSome = true from i, t, beq_self_eq_true]; rfl)).trans s
  have n : ¬ ((Value.type X == Value.ref C) = true) := fun z => nomatch (show Value.type X = Value.ref C from beq_iff_eq.mp z)
  exact (if_neg n).trans h
theorem kit_other {K : PySem.W.Frag} {C : Addr} {X : String} (m : PySem.W.kitMeta X = true) (s : PySem.W.subIn K (.ref C) (.type X) = some false) : PySem.W.kitOne K (.ref C) (.type X) = some false := by
  have h : PySem.W.kitCls K (.ref C) (.type X) = some false := (if_pos m).trans s
  have n : ¬ ((Value.ref C == Value.type X) = true) := fun z => nomatch (show Value.ref C = Value.type X from beq_iff_eq.mp z)
  exact (if_neg n).trans h
/-- a def without defaults -/
structure Gd (K : PySem.W.Frag) (x qual : Str) (st : Stmt) (f : Addr) : Prop where
  ex : ∃ (oc : Value) (od : Option Addr) (kV dc pm : Value) (an : Option Addr) (cd ct : Value) (sl : Array (Option Value)),
    K.lookup f = some ⟨oc, od, .func (PySem.W.fnOf x qual (defArgs st) (defBody st) (defScope st) .none kV dc pm an cd ct), sl⟩ ∧ PySem.W.codeIn K cd qual = true ∧ PySem.W.keepIn K (.ref f) = true
theorem gd_mk {K : PySem.W.Frag} {x qual : Str} {st : Stmt} {f : Addr} {oc : Value} {od : Option Addr} {kV dc pm : Value} {an : Option Addr} {cd ct : Value} {sl : Array (Option Value)}
    (l : K.lookup f = some ⟨oc, od, .func (PySem.W.fnOf x qual (defArgs st) (defBody st) (defScope st) .none kV dc pm an cd ct), sl⟩) (c : PySem.W.codeIn K cd qual = true) (k : PySem.W.keepIn K (.ref f) = true) : Gd K x qual st f := ⟨⟨_, _, _, _, _, _, _, _, _, l, c, k⟩⟩
/-- a def with one default, u -/
structure Gdd (K : PySem.W.Frag) (x qual : Str) (st : Stmt) (u : Value) (f : Addr) : Prop where
  ex : ∃ (oc : Value) (od : Option Addr) (T : Addr) (kV dc pm : Value) (an : Option Addr) (cd ct : Value) (sl : Array (Option Value)) (oc2 : Value) (od2 : Option Addr) (n : Nat) (sl2 : Array (Option Value)),
    K.lookup f = some ⟨oc, od, .func (PySem.W.fnOf x qual (defArgs st) (defBody st) (defScope st) (.ref T) kV dc pm an cd ct), sl⟩ ∧ PySem.W.codeIn K cd qual = true ∧ PySem.W.keepIn K (.ref f) = true ∧ K.lookup T = some ⟨oc2, od2, .seq [u].toArray n, sl2⟩
theorem gdd_mk {K : PySem.W.Frag} {x qual : Str} {st : Stmt} {u : Value} {f T : Addr} {oc oc2 : Value} {od od2 : Option Addr} {kV dc pm : Value} {an : Option Addr} {cd ct : Value} {sl sl2 : Array (Option Value)} {n : Nat}
    (l : K.lookup f = some ⟨oc, od, .func (PySem.W.fnOf x qual (defArgs st) (defBody st) (defScope st) (.ref T) kV dc pm an cd ct), sl⟩) (c : PySem.W.codeIn K cd qual = true) (k : PySem.W.keepIn K (.ref f) = true) (t : K.lookup T = some ⟨oc2, od2, .seq [u].toArray n, sl2⟩) : Gdd K x qual st u f := ⟨⟨_, _, _, _, _, _, _, _, _, _, _, _, _, _, l, c, k, t⟩⟩
structure EmptyT (K : PySem.W.Frag) (e : Addr) : Prop where
  ex : ∃ (od : Option Addr) (n : Nat) (sl : Array (Option Value)), K.lookup e = some ⟨.type "tuple", od, .seq #[] n, sl⟩
theorem et_mk {K : PySem.W.Frag} {e : Addr} {od : Option Addr} {n : Nat} {sl : Array (Option Value)} (l : K.lookup e = some ⟨.type "tuple", od, .seq #[] n, sl⟩) : EmptyT K e := ⟨⟨_, _, _, l⟩⟩
section
variable {K : PySem.W.Frag} {mg : Str → Option Value} {x qual : Str} {st : Stmt} {f C : Addr} {ps : List Str} {u : Value}
/-- all parameters are written -/
abbrev AllGiven (x qual : Str) (st : Stmt) (ps : List Str) : Prop := ∀ (kV dc pm : Value) (an : Option Addr) (cd ct : Value) (us : List Value), us.length = ps.length → bindArgs (PySem.W.fnOf x qual (defArgs st) (defBody st) (defScope st) .none kV dc pm an cd ct) ⟨us, []⟩ = pure (ps.zip us)
theorem Gd.fx (g : Gd K x qual st f) (b : AllGiven x qual st ps) : ∃ fd, FunX K x qual st f fd ∧ Binds K fd ps [] ∧ ∀ (s : Shared) (us : List Value), us.length = ps.length → BindsTo s fd ⟨us, []⟩ (ps.zip us) := by
  obtain ⟨oc, od, kV, dc, pm, an, cd, ct, sl, l, c, k⟩ := g.ex
  exact ⟨_, ⟨⟨oc, od, _, kV, dc, pm, an, cd, ct, sl, rfl, l, c⟩, k⟩, .all fun us hl => b kV dc pm an cd ct us hl, fun s us hl => .of_eq (b kV dc pm an cd ct us hl)⟩
theorem Gd.fd (g : Gd K x x st f) (a : mg x = some (.ref f)) (b : AllGiven x x st ps) : Fd K mg x ps st := by
  obtain ⟨fd, h1, h2, _⟩ := g.fx b
  exact ⟨⟨f, fd, h1, a, h2⟩⟩
theorem Gd.fm (g : Gd K x qual st f) (a : PySem.W.findIn K (.ref C) x = some (some (.ref f))) (i : PySem.W.isFn K (.ref f) = true) (b : AllGiven x qual st ps) : Fm K C x qual ps st := by
  obtain ⟨fd, h1, h2, _⟩ := g.fx b
  exact ⟨⟨f, fd, h1, ⟨a, i, h1.kp⟩, h2⟩⟩
theorem Gd.mtk {P : Program} {w : World} {base : Heap} {k : Nat} {y : Str} {sp : Sp} (g : Gd K x qual st f) (a : PySem.W.findIn K (.ref C) x = some (some (.ref f))) (i : PySem.W.isFn K (.ref f) = true)
    (b : ∀ (kV dc pm : Value) (an : Option Addr) (cd ct p q : Value), bindArgs (PySem.W.fnOf x qual (defArgs st) (defBody st) (defScope st) .none kV dc pm an cd ct) ⟨[p], [(y, q)]⟩ = (pure [(("self" : Str), p), (y, q)] : Sem (List (Str × Value))))
    (h : ∀ fd, FunX K x qual st f fd → FnOk P w K mg base CX0 k f fd ["self", y] sp) : MtK P w K mg base C k x ["self", y] [y] sp := by
  obtain ⟨oc, od, kV, dc, pm, an, cd, ct, sl, l, c, kp⟩ := g.ex
  have F : FunX K x qual st f (PySem.W.fnOf x qual (defArgs st) (defBody st) (defScope st) .none kV dc pm an cd ct) := ⟨⟨oc, od, _, kV, dc, pm, an, cd, ct, sl, rfl, l, c⟩, kp⟩
  refine ⟨⟨f, _, h _ F, ⟨a, i, kp⟩, ⟨fun s us ws _ h1 h2 => ?_, fun r1 r2 => r1.append r2⟩⟩⟩
  match us, ws, h1, h2 with
  | [p], [q], _, _ => exact .of_eq (b kV dc pm an cd ct p q)
theorem Gdd.fund {v : V} (g : Gdd K x qual st u f) (r : RelV v u) : ∃ fd, FunX K x qual st f fd ∧ FunD K x qual (defArgs st) (defBody st) (defScope st) [v] [] f fd := by
  obtain ⟨oc, od, T, kV, dc, pm, an, cd, ct, sl, oc2, od2, n, sl2, l, c, k, t⟩ := g.ex
  exact ⟨_, ⟨⟨oc, od, _, kV, dc, pm, an, cd, ct, sl, rfl, l, c⟩, k⟩, ⟨⟨oc, od, _, kV, dc, pm, an, cd, ct, sl, rfl, l, c, .inr ⟨fun z => (nomatch z), T, _, [u], n, rfl, t, rfl, .cons r .nil⟩, .inl rfl⟩, k⟩⟩
end
theorem EmptyT.sq {K : PySem.W.Frag} {e : Addr} (h : EmptyT K e) : SqT K (fun _ => none) e [] := by
  obtain ⟨od, n, sl, l⟩ := h.ex
  exact .inr ⟨_, #[], n, l, rfl, rfl, Nat.zero_le _, .nil⟩

theorem all_mk {l : PySem.W.OpenLaw} {w : World} {K : PySem.W.Frag} {h : Heap} {mg : Str → Option Value} {fa : Addr} {f_is_list f_is_name f_is_link f_in_sequence f_want_names f_neighbours_by_node f_joined_to f_want_net f_want_node f_law_pot f_law_draw f_law_pick f_law_mixed f_law_named f_law_link f_law_polygon f_law_outside f_law_any f_law_flat f_law_knotted f_law_turned f_law_near f_law_piece f_law_pieces f_law_drawn f_law_shown f_law_is f_law_in_right f_law_changed f_law_is_part f_law_parts_right f_law_right f_law g_pieces g_repr g_nodes g_links g_len g_has_link g_contains g_neighbours g_piece_of g_is_part_of g_eq C f_pairs g_init de pz gz : Addr} {qrest : List Value} {vn vl cl cn : Tok} (X : K.In h) (G : h.Ns mainGlobals mg) (hfa : mg "law" = some (.ref fa))
    (a_is_list : PySem.W.nsIn K mainGlobals "is_list" = some (some (.ref f_is_list))) (d_is_list : Gd K "is_list" "is_list" sIsList f_is_list)
    (a_is_name : PySem.W.nsIn K mainGlobals "is_name" = some (some (.ref f_is_name))) (d_is_name : Gd K "is_name" "is_name" sIsName f_is_name)
    (a_is_link : PySem.W.nsIn K mainGlobals "is_link" = some (some (.ref f_is_link))) (d_is_link : Gd K "is_link" "is_link" sIsLink f_is_link)
    (a_in_sequence : PySem.W.nsIn K mainGlobals "in_sequence" = some (some (.ref f_in_sequence))) (d_in_sequence : Gd K "in_sequence" "in_sequence" sInSequence f_in_sequence)
    (a_want_names : PySem.W.nsIn K mainGlobals "want_names" = some (some (.ref f_want_names))) (d_want_names : Gd K "want_names" "want_names" sWantNames f_want_names)
    (a_neighbours_by_node : PySem.W.nsIn K mainGlobals "neighbours_by_node" = some (some (.ref f_neighbours_by_node))) (d_neighbours_by_node : Gd K "neighbours_by_node" "neighbours_by_node" sNeighboursByNode f_neighbours_by_node)
    (a_joined_to : PySem.W.nsIn K mainGlobals "joined_to" = some (some (.ref f_joined_to))) (d_joined_to : Gd K "joined_to" "joined_to" sJoinedTo f_joined_to)
    (a_want_net : PySem.W.nsIn K mainGlobals "want_net" = some (some (.ref f_want_net))) (d_want_net : Gd K "want_net" "want_net" sWantNet f_want_net)
    (a_want_node : PySem.W.nsIn K mainGlobals "want_node" = some (some (.ref f_want_node))) (d_want_node : Gd K "want_node" "want_node" sWantNode f_want_node)
    (a_law_pot : PySem.W.nsIn K mainGlobals "_law_pot" = some (some (.ref f_law_pot))) (d_law_pot : Gd K "_law_pot" "_law_pot" sPot f_law_pot)
    (a_law_draw : PySem.W.nsIn K mainGlobals "_law_draw" = some (some (.ref f_law_draw))) (d_law_draw : Gd K "_law_draw" "_law_draw" sDraw f_law_draw)
    (a_law_pick : PySem.W.nsIn K mainGlobals "_law_pick" = some (some (.ref f_law_pick))) (d_law_pick : Gd K "_law_pick" "_law_pick" sPick f_law_pick)
    (a_law_mixed : PySem.W.nsIn K mainGlobals "_law_mixed" = some (some (.ref f_law_mixed))) (d_law_mixed : Gd K "_law_mixed" "_law_mixed" sMixed f_law_mixed)
    (a_law_named : PySem.W.nsIn K mainGlobals "_law_named" = some (some (.ref f_law_named))) (d_law_named : Gd K "_law_named" "_law_named" sNamed f_law_named)
    (a_law_link : PySem.W.nsIn K mainGlobals "_law_link" = some (some (.ref f_law_link))) (d_law_link : Gd K "_law_link" "_law_link" sLink f_law_link)
    (a_law_polygon : PySem.W.nsIn K mainGlobals "_law_polygon" = some (some (.ref f_law_polygon))) (d_law_polygon : Gd K "_law_polygon" "_law_polygon" sPolygon f_law_polygon)
    (a_law_outside : PySem.W.nsIn K mainGlobals "_law_outside" = some (some (.ref f_law_outside))) (d_law_outside : Gd K "_law_outside" "_law_outside" sOutside f_law_outside)
    (a_law_any : PySem.W.nsIn K mainGlobals "_law_any" = some (some (.ref f_law_any))) (d_law_any : Gd K "_law_any" "_law_any" sAny f_law_any)
    (a_law_flat : PySem.W.nsIn K mainGlobals "_law_flat" = some (some (.ref f_law_flat))) (d_law_flat : Gd K "_law_flat" "_law_flat" sFlat f_law_flat)
    (a_law_knotted : PySem.W.nsIn K mainGlobals "_law_knotted" = some (some (.ref f_law_knotted))) (d_law_knotted : Gd K "_law_knotted" "_law_knotted" sKnotted f_law_knotted)
    (a_law_turned : PySem.W.nsIn K mainGlobals "_law_turned" = some (some (.ref f_law_turned))) (d_law_turned : Gd K "_law_turned" "_law_turned" sTurned f_law_turned)
    (a_law_near : PySem.W.nsIn K mainGlobals "_law_near" = some (some (.ref f_law_near))) (d_law_near : Gd K "_law_near" "_law_near" sNear f_law_near)
    (a_law_piece : PySem.W.nsIn K mainGlobals "_law_piece" = some (some (.ref f_law_piece))) (d_law_piece : Gd K "_law_piece" "_law_piece" sPiece f_law_piece)
    (a_law_pieces : PySem.W.nsIn K mainGlobals "_law_pieces" = some (some (.ref f_law_pieces))) (d_law_pieces : Gd K "_law_pieces" "_law_pieces" sPieces f_law_pieces)
    (a_law_drawn : PySem.W.nsIn K mainGlobals "_law_drawn" = some (some (.ref f_law_drawn))) (d_law_drawn : Gd K "_law_drawn" "_law_drawn" sDrawn f_law_drawn)
    (a_law_shown : PySem.W.nsIn K mainGlobals "_law_shown" = some (some (.ref f_law_shown))) (d_law_shown : Gd K "_law_shown" "_law_shown" sShown f_law_shown)
    (a_law_is : PySem.W.nsIn K mainGlobals "_law_is" = some (some (.ref f_law_is))) (d_law_is : Gd K "_law_is" "_law_is" sIs f_law_is)
    (a_law_in_right : PySem.W.nsIn K mainGlobals "_law_in_right" = some (some (.ref f_law_in_right))) (d_law_in_right : Gd K "_law_in_right" "_law_in_right" sInRight f_law_in_right)
    (a_law_changed : PySem.W.nsIn K mainGlobals "_law_changed" = some (some (.ref f_law_changed))) (d_law_changed : Gd K "_law_changed" "_law_changed" sChanged f_law_changed)
    (a_law_is_part : PySem.W.nsIn K mainGlobals "_law_is_part" = some (some (.ref f_law_is_part))) (d_law_is_part : Gd K "_law_is_part" "_law_is_part" sIsPart f_law_is_part)
    (a_law_parts_right : PySem.W.nsIn K mainGlobals "_law_parts_right" = some (some (.ref f_law_parts_right))) (d_law_parts_right : Gd K "_law_parts_right" "_law_parts_right" sPartsRight f_law_parts_right)
    (a_law_right : PySem.W.nsIn K mainGlobals "_law_right" = some (some (.ref f_law_right))) (d_law_right : Gd K "_law_right" "_law_right" sRight f_law_right)
    (a_law : PySem.W.nsIn K mainGlobals "law" = some (some (.ref f_law))) (d_law : Gd K "law" "law" sLaw f_law)
    (aN : PySem.W.nsIn K mainGlobals "Net" = some (some (.ref C)))
    (b_pieces : PySem.W.findIn K (.ref C) "pieces" = some (some (.ref g_pieces))) (i_pieces : PySem.W.isFn K (.ref g_pieces) = true) (e_pieces : Gd K "pieces" "Net.pieces" sPiecesM g_pieces)
    (b_repr : PySem.W.findIn K (.ref C) "__repr__" = some (some (.ref g_repr))) (i_repr : PySem.W.isFn K (.ref g_repr) = true) (e_repr : Gd K "__repr__" "Net.__repr__" sReprM g_repr)
    (b_nodes : PySem.W.findIn K (.ref C) "nodes" = some (some (.ref g_nodes))) (i_nodes : PySem.W.isFn K (.ref g_nodes) = true) (e_nodes : Gd K "nodes" "Net.nodes" sNodesM g_nodes)
    (b_links : PySem.W.findIn K (.ref C) "links" = some (some (.ref g_links))) (i_links : PySem.W.isFn K (.ref g_links) = true) (e_links : Gd K "links" "Net.links" sLinksM g_links)
    (b_len : PySem.W.findIn K (.ref C) "__len__" = some (some (.ref g_len))) (i_len : PySem.W.isFn K (.ref g_len) = true) (e_len : Gd K "__len__" "Net.__len__" sLenM g_len)
    (b_has_link : PySem.W.findIn K (.ref C) "has_link" = some (some (.ref g_has_link))) (i_has_link : PySem.W.isFn K (.ref g_has_link) = true) (e_has_link : Gd K "has_link" "Net.has_link" sHasLinkM g_has_link)
    (b_contains : PySem.W.findIn K (.ref C) "__contains__" = some (some (.ref g_contains))) (i_contains : PySem.W.isFn K (.ref g_contains) = true) (e_contains : Gd K "__contains__" "Net.__contains__" sContainsM g_contains)
    (b_neighbours : PySem.W.findIn K (.ref C) "neighbours" = some (some (.ref g_neighbours))) (i_neighbours : PySem.W.isFn K (.ref g_neighbours) = true) (e_neighbours : Gd K "neighbours" "Net.neighbours" sNeighboursM g_neighbours)
    (b_piece_of : PySem.W.findIn K (.ref C) "piece_of" = some (some (.ref g_piece_of))) (i_piece_of : PySem.W.isFn K (.ref g_piece_of) = true) (e_piece_of : Gd K "piece_of" "Net.piece_of" sPieceOfM g_piece_of)
    (b_is_part_of : PySem.W.findIn K (.ref C) "is_part_of" = some (some (.ref g_is_part_of))) (i_is_part_of : PySem.W.isFn K (.ref g_is_part_of) = true) (e_is_part_of : Gd K "is_part_of" "Net.is_part_of" sIsPartOfM g_is_part_of)
    (b_eq : PySem.W.findIn K (.ref C) "__eq__" = some (some (.ref g_eq))) (i_eq : PySem.W.isFn K (.ref g_eq) = true) (e_eq : Gd K "__eq__" "Net.__eq__" sEqM g_eq)
    (a_pairs : PySem.W.nsIn K mainGlobals "pairs_of" = some (some (.ref f_pairs))) (d_pairs : Gdd K "pairs_of" "pairs_of" sPairsOf .none f_pairs)
    (b_init : PySem.W.findIn K (.ref C) "__init__" = some (some (.ref g_init))) (i_init : PySem.W.isFn K (.ref g_init) = true) (e_init : Gdd K "__init__" "Net.__init__" sInitM (.ref de) g_init) (m_tup : EmptyT K de)
    (q_at : PySem.W.findIn K (.ref C) "size" = some (some (.ref pz))) (q_get : PySem.W.specialIn K (.ref pz) "__get__" = some (some (.builtin "property.__get__"))) (q_tak : PySem.W.takesIn K (.ref pz) = some true) (q_rec : PySem.W.recIn K pz "property" = some (.ref gz :: qrest)) (e_size : Gd K "size" "Net.size" sSizeM gz)
    (n_ga : PySem.W.plainGet K C Str.empty = true) (n_hd : PySem.W.hasDictIn K C = true) (n_po : PySem.W.plainOver K C = true) (n_sa : PySem.W.findIn K (.ref C) "__setattr__" = some (some (.builtin "object.__setattr__"))) (n_mk : PySem.W.makesIn K C = true) (n_kp : PySem.W.keepIn K (.ref C) = true)
    (n_n : PySem.W.findIn K (.ref C) "own_nodes" = some none) (n_l : PySem.W.findIn K (.ref C) "own_links" = some none) (n_r : PySem.W.findIn K (.ref C) "own_near" = some none)
    (t_ha : PySem.W.findIn K (.ref C) "__class__" = some (some (.builtin "object.__class__"))) (t_hn : PySem.W.specialIn K (.builtin "object.__class__") "__get__" = some (some (.builtin "getset_descriptor.__get__"))) (t_tk : PySem.W.takesIn K (.builtin "object.__class__") = some true) (t_hm : PySem.W.mroIn K C (.type "object") = some true) (t_ne : PySem.W.findIn K (.ref C) "__ne__" = some (some (.builtin "object.__ne__")))
    (t_NoneType : PySem.W.notFirst K C (.type "NoneType") = true) (t_bool : PySem.W.notFirst K C (.type "bool") = true) (t_int : PySem.W.notFirst K C (.type "int") = true) (t_str : PySem.W.notFirst K C (.type "str") = true) (t_list : PySem.W.notFirst K C (.type "list") = true) (t_tuple : PySem.W.notFirst K C (.type "tuple") = true) (t_dict : PySem.W.notFirst K C (.type "dict") = true) (t_own : PySem.W.notFirst K C (.ref C) = true)
    (o_cls : PySem.W.isClsIn K C = true) (o_typ : PySem.W.typeIn K (.ref C) = some (.type "type")) (o_NoneType : PySem.W.subIn K (.type "NoneType") (.ref C) = some false) (o_bool : PySem.W.subIn K (.type "bool") (.ref C) = some false) (o_int : PySem.W.subIn K (.type "int") (.ref C) = some false) (o_str : PySem.W.subIn K (.type "str") (.ref C) = some false) (o_list : PySem.W.subIn K (.type "list") (.ref C) = some false) (o_tuple : PySem.W.subIn K (.type "tuple") (.ref C) = some false) (o_dict : PySem.W.subIn K (.type "dict") (.ref C) = some false)
    (u_str : PySem.W.subIn K (.ref C) (.type "str") = some false) (u_tuple : PySem.W.subIn K (.ref C) (.type "tuple") = some false) (u_list : PySem.W.subIn K (.ref C) (.type "list") = some false)
    (v_rd : PySem.W.readsIn K C (.type "type") = true) (v_ga : PySem.W.specialIn K (.ref C) "__getattribute__" = some (some (.builtin "type.__getattribute__"))) (v_n : PySem.W.findCls K (.ref C) (.type "type") "MOST_NODES" = some (.val (.int 60 vn))) (v_l : PySem.W.findCls K (.ref C) (.type "type") "MOST_LINKS" = some (.val (.int 120 vl)))
    (c_let : PySem.W.nsIn K mainGlobals "LETTERS" = some (some (.str letS cl))) (c_lon : PySem.W.nsIn K mainGlobals "LONGEST_NAME" = some (some (.int 8 cn)))
    (z_len : PySem.W.nsIn K mainGlobals "len" = some none) (z_isinstance : PySem.W.nsIn K mainGlobals "isinstance" = some none) (z_list : PySem.W.nsIn K mainGlobals "list" = some none) (z_tuple : PySem.W.nsIn K mainGlobals "tuple" = some none) (z_sorted : PySem.W.nsIn K mainGlobals "sorted" = some none) (z_range : PySem.W.nsIn K mainGlobals "range" = some none) (z_enumerate : PySem.W.nsIn K mainGlobals "enumerate" = some none) (z_zip : PySem.W.nsIn K mainGlobals "zip" = some none) (z_dict : PySem.W.nsIn K mainGlobals "dict" = some none) (z_str : PySem.W.nsIn K mainGlobals "str" = some none) (z_int : PySem.W.nsIn K mainGlobals "int" = some none) (z_abs : PySem.W.nsIn K mainGlobals "abs" = some none) (z_max : PySem.W.nsIn K mainGlobals "max" = some none) (z_min : PySem.W.nsIn K mainGlobals "min" = some none) (z_all : PySem.W.nsIn K mainGlobals "all" = some none) (z_any : PySem.W.nsIn K mainGlobals "any" = some none) (z_repr : PySem.W.nsIn K mainGlobals "repr" = some none) (z_divmod : PySem.W.nsIn K mainGlobals "divmod" = some none)
    : ∃ fd : FuncData, (∀ (s : Shared) (u : Value), BindsTo s fd ⟨[u], []⟩ [("_law_script", u)]) ∧ ∀ base : Heap, K.In base → base.Ns mainGlobals mg → GFn l.prog w K mg base 9 fa fd ["_law_script"] (spLawG K) := by
  have ef := hfa.symm.trans (PySem.W.mg_of X G a_law)
  cases ef
  obtain ⟨fdL, FL, _, bL⟩ := d_law.fx (ps := ["_law_script"]) (fun _ _ _ _ _ _ us hl => match us, hl with | [_], _ => rfl)
  refine ⟨fdL, fun s u => bL s [u] rfl, fun base _ _ => ?_⟩
  have M : Mb mg := ⟨PySem.W.mg_none_of X G z_len, PySem.W.mg_none_of X G z_isinstance, PySem.W.mg_none_of X G z_list, PySem.W.mg_none_of X G z_tuple, PySem.W.mg_none_of X G z_sorted, PySem.W.mg_none_of X G z_range, PySem.W.mg_none_of X G z_enumerate, PySem.W.mg_none_of X G z_zip, PySem.W.mg_none_of X G z_dict, PySem.W.mg_none_of X G z_str, PySem.W.mg_none_of X G z_int, PySem.W.mg_none_of X G z_abs, PySem.W.mg_none_of X G z_max, PySem.W.mg_none_of X G z_min, PySem.W.mg_none_of X G z_all, PySem.W.mg_none_of X G z_any, PySem.W.mg_none_of X G z_repr⟩
  have Gc : Gt mg C := ⟨⟨_, PySem.W.mg_of X G c_let⟩, ⟨_, PySem.W.mg_of X G c_lon⟩, PySem.W.mg_of X G aN⟩
  have Tc : NetC K C := ⟨⟨n_ga, n_hd, n_po, n_sa⟩, n_n, n_l, n_r⟩
  have hfst : ∀ d : D, d.inst = true → PySem.W.notFirst K C (tyD C d) = true := fun d hd => by
    cases d with
    | non => exact t_NoneType
    | bl _ => exact t_bool
    | int _ => exact t_int
    | str _ => exact t_str
    | lst _ => exact t_list
    | nl _ => exact t_list
    | tup _ => exact t_tuple
    | dic _ => exact t_dict
    | pot => exact t_list
    | net _ _ _ => exact t_own
    | ty _ => cases hd
    | cls => cases hd
  have hisn : ∀ d : D, d.inst = true → PySem.W.kitOne K (tyD C d) (.ref C) = some (isNetD d) := fun d hd => by
    cases d with
    | non => exact kit_own o_cls o_typ o_NoneType
    | bl _ => exact kit_own o_cls o_typ o_bool
    | int _ => exact kit_own o_cls o_typ o_int
    | str _ => exact kit_own o_cls o_typ o_str
    | lst _ => exact kit_own o_cls o_typ o_list
    | nl _ => exact kit_own o_cls o_typ o_list
    | tup _ => exact kit_own o_cls o_typ o_tuple
    | dic _ => exact kit_own o_cls o_typ o_dict
    | pot => exact kit_own o_cls o_typ o_list
    | net _ _ _ => exact kit_self
    | ty _ => cases hd
    | cls => cases hd
  have T : NetT K C := ⟨Tc, t_ha, t_hn, t_tk, t_hm, t_ne, hfst, hisn, kit_other (by decide +kernel) u_str, kit_other (by decide +kernel) u_tuple, kit_other (by decide +kernel) u_list⟩
  have V : NetV K C := ⟨⟨_, _, _, ⟨v_rd, v_ga⟩, ⟨v_n, ⟨_, rfl⟩⟩, ⟨v_l, ⟨_, rfl⟩⟩⟩⟩
  have F_is_list := d_is_list.fd (ps := ["value"]) (PySem.W.mg_of X G a_is_list) (fun _ _ _ _ _ _ us hl => match us, hl with | [_], _ => rfl)
  have F_is_name := d_is_name.fd (ps := ["value"]) (PySem.W.mg_of X G a_is_name) (fun _ _ _ _ _ _ us hl => match us, hl with | [_], _ => rfl)
  have F_is_link := d_is_link.fd (ps := ["value"]) (PySem.W.mg_of X G a_is_link) (fun _ _ _ _ _ _ us hl => match us, hl with | [_], _ => rfl)
  have F_in_sequence := d_in_sequence.fd (ps := ["link"]) (PySem.W.mg_of X G a_in_sequence) (fun _ _ _ _ _ _ us hl => match us, hl with | [_], _ => rfl)
  have F_want_names := d_want_names.fd (ps := ["nodes"]) (PySem.W.mg_of X G a_want_names) (fun _ _ _ _ _ _ us hl => match us, hl with | [_], _ => rfl)
  have F_neighbours_by_node := d_neighbours_by_node.fd (ps := ["nodes", "pairs"]) (PySem.W.mg_of X G a_neighbours_by_node) (fun _ _ _ _ _ _ us hl => match us, hl with | [_, _], _ => rfl)
  have F_joined_to := d_joined_to.fd (ps := ["near", "start"]) (PySem.W.mg_of X G a_joined_to) (fun _ _ _ _ _ _ us hl => match us, hl with | [_, _], _ => rfl)
  have F_want_net := d_want_net.fd (ps := ["value"]) (PySem.W.mg_of X G a_want_net) (fun _ _ _ _ _ _ us hl => match us, hl with | [_], _ => rfl)
  have F_want_node := d_want_node.fd (ps := ["net", "value"]) (PySem.W.mg_of X G a_want_node) (fun _ _ _ _ _ _ us hl => match us, hl with | [_, _], _ => rfl)
  have F_law_pot := d_law_pot.fd (ps := ["_law_script", "_law_k"]) (PySem.W.mg_of X G a_law_pot) (fun _ _ _ _ _ _ us hl => match us, hl with | [_, _], _ => rfl)
  have F_law_draw := d_law_draw.fd (ps := ["_law_pot_here", "_law_size"]) (PySem.W.mg_of X G a_law_draw) (fun _ _ _ _ _ _ us hl => match us, hl with | [_, _], _ => rfl)
  have F_law_pick := d_law_pick.fd (ps := ["_law_pot_here", "_law_some"]) (PySem.W.mg_of X G a_law_pick) (fun _ _ _ _ _ _ us hl => match us, hl with | [_, _], _ => rfl)
  have F_law_mixed := d_law_mixed.fd (ps := ["_law_pot_here", "_law_some"]) (PySem.W.mg_of X G a_law_mixed) (fun _ _ _ _ _ _ us hl => match us, hl with | [_, _], _ => rfl)
  have F_law_named := d_law_named.fd (ps := ["_law_pot_here", "_law_size", "_law_taken"]) (PySem.W.mg_of X G a_law_named) (fun _ _ _ _ _ _ us hl => match us, hl with | [_, _, _], _ => rfl)
  have F_law_link := d_law_link.fd (ps := ["_law_this", "_law_mate"]) (PySem.W.mg_of X G a_law_link) (fun _ _ _ _ _ _ us hl => match us, hl with | [_, _], _ => rfl)
  have F_law_polygon := d_law_polygon.fd (ps := ["_law_pot_here", "_law_labels"]) (PySem.W.mg_of X G a_law_polygon) (fun _ _ _ _ _ _ us hl => match us, hl with | [_, _], _ => rfl)
  have F_law_outside := d_law_outside.fd (ps := ["_law_pot_here", "_law_most"]) (PySem.W.mg_of X G a_law_outside) (fun _ _ _ _ _ _ us hl => match us, hl with | [_, _], _ => rfl)
  have F_law_any := d_law_any.fd (ps := ["_law_pot_here", "_law_most", "_law_size"]) (PySem.W.mg_of X G a_law_any) (fun _ _ _ _ _ _ us hl => match us, hl with | [_, _, _], _ => rfl)
  have F_law_flat := d_law_flat.fd (ps := ["_law_lists"]) (PySem.W.mg_of X G a_law_flat) (fun _ _ _ _ _ _ us hl => match us, hl with | [_], _ => rfl)
  have F_law_knotted := d_law_knotted.fd (ps := ["_law_pot_here", "_law_splits", "_law_extras"]) (PySem.W.mg_of X G a_law_knotted) (fun _ _ _ _ _ _ us hl => match us, hl with | [_, _, _], _ => rfl)
  have F_law_turned := d_law_turned.fd (ps := ["_law_pot_here", "_law_pairs"]) (PySem.W.mg_of X G a_law_turned) (fun _ _ _ _ _ _ us hl => match us, hl with | [_, _], _ => rfl)
  have F_law_near := d_law_near.fd (ps := ["_law_pairs", "_law_spot"]) (PySem.W.mg_of X G a_law_near) (fun _ _ _ _ _ _ us hl => match us, hl with | [_, _], _ => rfl)
  have F_law_piece := d_law_piece.fd (ps := ["_law_pairs", "_law_spot"]) (PySem.W.mg_of X G a_law_piece) (fun _ _ _ _ _ _ us hl => match us, hl with | [_, _], _ => rfl)
  have F_law_pieces := d_law_pieces.fd (ps := ["_law_spots", "_law_pairs"]) (PySem.W.mg_of X G a_law_pieces) (fun _ _ _ _ _ _ us hl => match us, hl with | [_, _], _ => rfl)
  have F_law_drawn := d_law_drawn.fd (ps := ["_law_pot_here"]) (PySem.W.mg_of X G a_law_drawn) (fun _ _ _ _ _ _ us hl => match us, hl with | [_], _ => rfl)
  have F_law_shown := d_law_shown.fd (ps := ["_law_model"]) (PySem.W.mg_of X G a_law_shown) (fun _ _ _ _ _ _ us hl => match us, hl with | [_], _ => rfl)
  have F_law_is := d_law_is.fd (ps := ["_law_made", "_law_model"]) (PySem.W.mg_of X G a_law_is) (fun _ _ _ _ _ _ us hl => match us, hl with | [_, _], _ => rfl)
  have F_law_in_right := d_law_in_right.fd (ps := ["_law_pot_here", "_law_made", "_law_model"]) (PySem.W.mg_of X G a_law_in_right) (fun _ _ _ _ _ _ us hl => match us, hl with | [_, _, _], _ => rfl)
  have F_law_changed := d_law_changed.fd (ps := ["_law_pot_here", "_law_model"]) (PySem.W.mg_of X G a_law_changed) (fun _ _ _ _ _ _ us hl => match us, hl with | [_, _], _ => rfl)
  have F_law_is_part := d_law_is_part.fd (ps := ["_law_model", "_law_more"]) (PySem.W.mg_of X G a_law_is_part) (fun _ _ _ _ _ _ us hl => match us, hl with | [_, _], _ => rfl)
  have F_law_parts_right := d_law_parts_right.fd (ps := ["_law_pot_here", "_law_made", "_law_model"]) (PySem.W.mg_of X G a_law_parts_right) (fun _ _ _ _ _ _ us hl => match us, hl with | [_, _, _], _ => rfl)
  have F_law_right := d_law_right.fd (ps := ["_law_pot_here"]) (PySem.W.mg_of X G a_law_right) (fun _ _ _ _ _ _ us hl => match us, hl with | [_], _ => rfl)
  have H_pieces := e_pieces.fm (ps := ["self"]) b_pieces i_pieces (fun _ _ _ _ _ _ us hl => match us, hl with | [_], _ => rfl)
  have H_repr := e_repr.fm (ps := ["self"]) b_repr i_repr (fun _ _ _ _ _ _ us hl => match us, hl with | [_], _ => rfl)
  have H_nodes := e_nodes.fm (ps := ["self"]) b_nodes i_nodes (fun _ _ _ _ _ _ us hl => match us, hl with | [_], _ => rfl)
  have H_links := e_links.fm (ps := ["self"]) b_links i_links (fun _ _ _ _ _ _ us hl => match us, hl with | [_], _ => rfl)
  have H_len := e_len.fm (ps := ["self"]) b_len i_len (fun _ _ _ _ _ _ us hl => match us, hl with | [_], _ => rfl)
  have H_has_link := e_has_link.fm (ps := ["self", "value"]) b_has_link i_has_link (fun _ _ _ _ _ _ us hl => match us, hl with | [_, _], _ => rfl)
  have H_contains := e_contains.fm (ps := ["self", "value"]) b_contains i_contains (fun _ _ _ _ _ _ us hl => match us, hl with | [_, _], _ => rfl)
  have H_neighbours := e_neighbours.fm (ps := ["self", "node"]) b_neighbours i_neighbours (fun _ _ _ _ _ _ us hl => match us, hl with | [_, _], _ => rfl)
  have H_piece_of := e_piece_of.fm (ps := ["self", "node"]) b_piece_of i_piece_of (fun _ _ _ _ _ _ us hl => match us, hl with | [_, _], _ => rfl)
  have H_is_part_of := e_is_part_of.fm (ps := ["self", "other"]) b_is_part_of i_is_part_of (fun _ _ _ _ _ _ us hl => match us, hl with | [_, _], _ => rfl)
  have H_eq := e_eq.fm (ps := ["self", "other"]) b_eq i_eq (fun _ _ _ _ _ _ us hl => match us, hl with | [_, _], _ => rfl)
  obtain ⟨fdP, FP, DP⟩ := d_pairs.fund (v := .non) rfl
  obtain ⟨dsP, rP, bP⟩ := DP.binds1 (ps := ["links", "nodes"]) 2 1 (fun z => nomatch z) rfl fun T kV dc pm an cd ct us its h1 h2 => match us, its, h1, h2 with | [_, _], [_], _, _ => ⟨_, rfl, rfl⟩
  have F_pairs : Fd K mg "pairs_of" ["links", "nodes"] sPairsOf := by
    cases rP
    exact ⟨⟨_, fdP, FP, PySem.W.mg_of X G a_pairs, bP⟩⟩
  have c_is_list := cl_is_list (P := l.prog) (w := w) (base := base) F_is_list M T
  have c_is_name := cl_is_name (P := l.prog) (w := w) (base := base) F_is_name M Gc T
  have c_is_link := cl_is_link F_is_link M T c_is_name
  have c_in_sequence := cl_in_sequence (P := l.prog) (w := w) (base := base) (C := C) F_in_sequence
  have c_want_names := cl_want_names F_want_names M c_is_list c_is_name
  have c_pairs_of := cl_pairs_of F_pairs M c_is_list c_is_link c_in_sequence
  have c_nbn := cl_neighbours_by_node (P := l.prog) (w := w) (base := base) (C := C) F_neighbours_by_node M
  have c_joined_to := cl_joined_to (P := l.prog) (w := w) (base := base) (C := C) F_joined_to M
  obtain ⟨fdI, FI, DI⟩ := e_init.fund (v := .ref de) rfl
  have OI := ok_init FI M Gc Tc V c_want_names c_pairs_of c_nbn
  obtain ⟨ds3, r3, b3⟩ := DI.binds1 (ps := ["self", "nodes", "links"]) 3 1 (fun z => nomatch z) rfl fun T kV dc pm an cd ct us its h1 h2 => match us, its, h1, h2 with | [_, _, _], [_], _, _ => ⟨_, rfl, rfl⟩
  obtain ⟨ds2, r2, b2⟩ := DI.binds1 (ps := ["self", "nodes", "links"]) 2 0 (fun z => nomatch z) rfl fun T kV dc pm an cd ct us its h1 h2 => match us, its, h1, h2 with | [_, _], [_], _, _ => ⟨_, rfl, rfl⟩
  obtain ⟨itsK, kb⟩ := DI.kbindsD (ps := ["self", "nodes", "links"]) 1 ["links", "nodes"] (fun us _ ws => us ++ ws.reverse) (fun z => nomatch z) (fun r1 _ r2 => r1.append (valsRev r2)) fun T kV dc pm an cd ct us its ws h1 h2 h3 => match us, its, ws, h1, h2, h3 with | [_], [_], [_, _], _, _, _ => ⟨_, rfl, rfl⟩
  have mk : Mk K C g_init := ⟨n_mk, b_init, i_init, n_kp⟩
  have k_net : KNet l.prog w K mg base C := by
    cases r3
    exact ⟨⟨g_init, fdI, mk, OI, PySem.W.mg_of X G aN, b3, kb⟩⟩
  have k_net1 : KNet1 l.prog w K mg base C := by
    cases r2 with
    | cons ra rb =>
      cases rb
      rename_i ua
      obtain rfl : ua = Value.ref de := ra
      exact ⟨⟨g_init, fdI, de, mk, OI, PySem.W.mg_of X G aN, b2, m_tup.sq⟩⟩
  obtain ⟨fdZ, FZ, bZ, _⟩ := e_size.fx (ps := ["self"]) (fun _ _ _ _ _ _ us hl => match us, hl with | [_], _ => rfl)
  have p_size : Pp l.prog w K mg base C 1 "size" ["self"] (SpD K C preSelf postSize) := ⟨⟨pz, gz, fdZ, ⟨q_at, q_get, q_tak, ⟨_, q_rec⟩⟩, ok_size FZ M Tc, bZ⟩⟩
  have m_nodes := mt_nodes (P := l.prog) (w := w) (mg := mg) (base := base) H_nodes M Tc
  have m_links := mt_links (P := l.prog) (w := w) (mg := mg) (base := base) H_links M Tc
  have m_len := mt_len (P := l.prog) (w := w) (mg := mg) (base := base) H_len M Tc
  have m_has_link := mt_has_link H_has_link Tc c_is_link
  have m_contains := mt_contains H_contains M T m_has_link
  have c_want_net := cl_want_net (P := l.prog) (w := w) (base := base) F_want_net M Gc T
  have c_want_node := cl_want_node F_want_node M T m_contains
  have m_neighbours := mt_neighbours H_neighbours M Tc c_want_node
  have m_piece_of := mt_piece_of H_piece_of Tc c_want_node c_joined_to
  have m_is_part_of := mt_is_part_of H_is_part_of M Tc c_want_net m_has_link
  have m_eq := mt_eq (P := l.prog) (w := w) (base := base) H_eq M Gc T
  have m_pieces := mt_pieces H_pieces M Tc c_joined_to
  have g_repr := gmt_repr (P := l.prog) (w := w) (mg := mg) (base := base) H_repr M Tc
  have mk_neighbours := e_neighbours.mtk (y := "node") b_neighbours i_neighbours (fun _ _ _ _ _ _ _ _ => rfl) fun fd F => fn_neighbours F M Tc c_want_node
  have mk_piece_of := e_piece_of.mtk (y := "node") b_piece_of i_piece_of (fun _ _ _ _ _ _ _ _ => rfl) fun fd F => fn_piece_of F Tc c_want_node c_joined_to
  have mk_is_part_of := e_is_part_of.mtk (y := "other") b_is_part_of i_is_part_of (fun _ _ _ _ _ _ _ _ => rfl) fun fd F => fn_is_part_of F M Tc c_want_net m_has_link
  have c_draw := cl_draw (P := l.prog) (w := w) (base := base) (C := C) F_law_draw (PySem.W.mg_none_of X G z_divmod) M.int
  have c_pick := cl_pick F_law_pick c_draw M.len
  have c_mixed := cl_mixed F_law_mixed M c_draw
  have c_named := cl_named F_law_named M c_draw
  have c_link := cl_link (P := l.prog) (w := w) (base := base) (C := C) F_law_link
  have c_flat := cl_flat (P := l.prog) (w := w) (base := base) (C := C) F_law_flat
  have c_near := cl_near (P := l.prog) (w := w) (base := base) (C := C) F_law_near M
  have c_piece := cl_piece F_law_piece M c_near
  have c_pieces := cl_pieces F_law_pieces M c_piece
  have c_turned := cl_turned F_law_turned c_draw c_mixed
  have c_any := cl_any F_law_any M c_draw c_pick c_named c_link
  have c_polygon := cl_polygon F_law_polygon M c_draw c_link
  have c_outside := cl_outside F_law_outside M c_draw c_pick c_named c_link c_polygon
  have c_knotted := cl_knotted F_law_knotted M c_draw c_pick c_named c_link c_mixed c_flat
  have c_drawn := cl_drawn F_law_drawn M c_draw c_knotted c_outside c_any
  have c_changed := cl_changed F_law_changed M c_draw c_pick c_named c_link
  have c_is_part := cl_is_part (P := l.prog) (w := w) (base := base) (C := C) F_law_is_part M
  have g_shown := gcl_shown (P := l.prog) (w := w) (base := base) (C := C) F_law_shown M
  have g_is := gcl_is F_law_is M T m_nodes m_links p_size m_len m_pieces g_repr c_pieces g_shown m_neighbours c_near m_piece_of c_piece
  have g_in_right := gcl_in_right F_law_in_right M T m_contains c_pick c_link
  have g_parts_right := gcl_parts_right F_law_parts_right M T c_draw c_changed k_net m_is_part_of mk_is_part_of m_eq c_is_part
  have g_right := gcl_right F_law_right M T c_drawn c_mixed c_turned k_net k_net1 m_eq g_is g_in_right g_parts_right g_repr m_nodes m_links m_pieces m_neighbours m_piece_of mk_neighbours mk_piece_of
  have c_pot := cl_pot (P := l.prog) (w := w) (base := base) F_law_pot M
  exact gfn_law FL M c_pot g_right
end K11

open PySem PySem.W PyProof.Rows in
set_option maxRecDepth 100000 in
set_option maxHeartbeats 0 in
theorem PySem.Challenge.cw_outsigns_k11_whole_nets_by_own_sets_holds : PySem.Challenge.rw_outsigns_k11_whole_nets_by_own_sets.Holds := by
  w_on; o_law; k_head; (case hw => w_witness2)
  k_fill
  refine K11.walk_ofG (k := 9) (x := "_law_script") rfl rfl ⟨rfl, by decide, by decide⟩ (fun w h Y => PySem.W.kIn_of Y) ?F
  case F =>
    intro w mg fa h KX G hmg
    refine' K11.all_mk KX G hmg ?a_is_list ?d_is_list ?a_is_name ?d_is_name ?a_is_link ?d_is_link ?a_in_sequence ?d_in_sequence ?a_want_names ?d_want_names ?a_neighbours_by_node ?d_neighbours_by_node ?a_joined_to ?d_joined_to ?a_want_net ?d_want_net ?a_want_node ?d_want_node ?a_law_pot ?d_law_pot ?a_law_draw ?d_law_draw ?a_law_pick ?d_law_pick ?a_law_mixed ?d_law_mixed ?a_law_named ?d_law_named ?a_law_link ?d_law_link ?a_law_polygon ?d_law_polygon ?a_law_outside ?d_law_outside ?a_law_any ?d_law_any ?a_law_flat ?d_law_flat ?a_law_knotted ?d_law_knotted ?a_law_turned ?d_law_turned ?a_law_near ?d_law_near ?a_law_piece ?d_law_piece ?a_law_pieces ?d_law_pieces ?a_law_drawn ?d_law_drawn ?a_law_shown ?d_law_shown ?a_law_is ?d_law_is ?a_law_in_right ?d_law_in_right ?a_law_changed ?d_law_changed ?a_law_is_part ?d_law_is_part ?a_law_parts_right ?d_law_parts_right ?a_law_right ?d_law_right ?a_law ?d_law ?aN ?b_pieces ?i_pieces ?e_pieces ?b_repr ?i_repr ?e_repr ?b_nodes ?i_nodes ?e_nodes ?b_links ?i_links ?e_links ?b_len ?i_len ?e_len ?b_has_link ?i_has_link ?e_has_link ?b_contains ?i_contains ?e_contains ?b_neighbours ?i_neighbours ?e_neighbours ?b_piece_of ?i_piece_of ?e_piece_of ?b_is_part_of ?i_is_part_of ?e_is_part_of ?b_eq ?i_eq ?e_eq ?a_pairs ?d_pairs ?b_init ?i_init ?e_init ?m_tup ?q_at ?q_get ?q_tak ?q_rec ?e_size ?n_ga ?n_hd ?n_po ?n_sa ?n_mk ?n_kp ?n_n ?n_l ?n_r ?t_ha ?t_hn ?t_tk ?t_hm ?t_ne ?t_NoneType ?t_bool ?t_int ?t_str ?t_list ?t_tuple ?t_dict ?t_own ?o_cls ?o_typ ?o_NoneType ?o_bool ?o_int ?o_str ?o_list ?o_tuple ?o_dict ?u_str ?u_tuple ?u_list ?v_rd ?v_ga ?v_n ?v_l ?c_let ?c_lon ?z_len ?z_isinstance ?z_list ?z_tuple ?z_sorted ?z_range ?z_enumerate ?z_zip ?z_dict ?z_str ?z_int ?z_abs ?z_max ?z_min ?z_all ?z_any ?z_repr ?z_divmod
    (case a_is_list => k_is)
    (case d_is_list => (refine' K11.gd_mk ?l ?c ?k; (case l => k_is); (case c => k_is); (case k => k_is)))
    (case a_is_name => k_is)
    (case d_is_name => (refine' K11.gd_mk ?l ?c ?k; (case l => k_is); (case c => k_is); (case k => k_is)))
    (case a_is_link => k_is)
    (case d_is_link => (refine' K11.gd_mk ?l ?c ?k; (case l => k_is); (case c => k_is); (case k => k_is)))
    (case a_in_sequence => k_is)
    (case d_in_sequence => (refine' K11.gd_mk ?l ?c ?k; (case l => k_is); (case c => k_is); (case k => k_is)))
    (case a_want_names => k_is)
    (case d_want_names => (refine' K11.gd_mk ?l ?c ?k; (case l => k_is); (case c => k_is); (case k => k_is)))
    (case a_neighbours_by_node => k_is)
    (case d_neighbours_by_node => (refine' K11.gd_mk ?l ?c ?k; (case l => k_is); (case c => k_is); (case k => k_is)))
    (case a_joined_to => k_is)
    (case d_joined_to => (refine' K11.gd_mk ?l ?c ?k; (case l => k_is); (case c => k_is); (case k => k_is)))
    (case a_want_net => k_is)
    (case d_want_net => (refine' K11.gd_mk ?l ?c ?k; (case l => k_is); (case c => k_is); (case k => k_is)))
    (case a_want_node => k_is)
    (case d_want_node => (refine' K11.gd_mk ?l ?c ?k; (case l => k_is); (case c => k_is); (case k => k_is)))
    (case a_law_pot => k_is)
    (case d_law_pot => (refine' K11.gd_mk ?l ?c ?k; (case l => k_is); (case c => k_is); (case k => k_is)))
    (case a_law_draw => k_is)
    (case d_law_draw => (refine' K11.gd_mk ?l ?c ?k; (case l => k_is); (case c => k_is); (case k => k_is)))
    (case a_law_pick => k_is)
    (case d_law_pick => (refine' K11.gd_mk ?l ?c ?k; (case l => k_is); (case c => k_is); (case k => k_is)))
    (case a_law_mixed => k_is)
    (case d_law_mixed => (refine' K11.gd_mk ?l ?c ?k; (case l => k_is); (case c => k_is); (case k => k_is)))
    (case a_law_named => k_is)
    (case d_law_named => (refine' K11.gd_mk ?l ?c ?k; (case l => k_is); (case c => k_is); (case k => k_is)))
    (case a_law_link => k_is)
    (case d_law_link => (refine' K11.gd_mk ?l ?c ?k; (case l => k_is); (case c => k_is); (case k => k_is)))
    (case a_law_polygon => k_is)
    (case d_law_polygon => (refine' K11.gd_mk ?l ?c ?k; (case l => k_is); (case c => k_is); (case k => k_is)))
    (case a_law_outside => k_is)
    (case d_law_outside => (refine' K11.gd_mk ?l ?c ?k; (case l => k_is); (case c => k_is); (case k => k_is)))
    (case a_law_any => k_is)
    (case d_law_any => (refine' K11.gd_mk ?l ?c ?k; (case l => k_is); (case c => k_is); (case k => k_is)))
    (case a_law_flat => k_is)
    (case d_law_flat => (refine' K11.gd_mk ?l ?c ?k; (case l => k_is); (case c => k_is); (case k => k_is)))
    (case a_law_knotted => k_is)
    (case d_law_knotted => (refine' K11.gd_mk ?l ?c ?k; (case l => k_is); (case c => k_is); (case k => k_is)))
    (case a_law_turned => k_is)
    (case d_law_turned => (refine' K11.gd_mk ?l ?c ?k; (case l => k_is); (case c => k_is); (case k => k_is)))
    (case a_law_near => k_is)
    (case d_law_near => (refine' K11.gd_mk ?l ?c ?k; (case l => k_is); (case c => k_is); (case k => k_is)))
    (case a_law_piece => k_is)
    (case d_law_piece => (refine' K11.gd_mk ?l ?c ?k; (case l => k_is); (case c => k_is); (case k => k_is)))
    (case a_law_pieces => k_is)
    (case d_law_pieces => (refine' K11.gd_mk ?l ?c ?k; (case l => k_is); (case c => k_is); (case k => k_is)))
    (case a_law_drawn => k_is)
    (case d_law_drawn => (refine' K11.gd_mk ?l ?c ?k; (case l => k_is); (case c => k_is); (case k => k_is)))
    (case a_law_shown => k_is)
    (case d_law_shown => (refine' K11.gd_mk ?l ?c ?k; (case l => k_is); (case c => k_is); (case k => k_is)))
    (case a_law_is => k_is)
    (case d_law_is => (refine' K11.gd_mk ?l ?c ?k; (case l => k_is); (case c => k_is); (case k => k_is)))
    (case a_law_in_right => k_is)
    (case d_law_in_right => (refine' K11.gd_mk ?l ?c ?k; (case l => k_is); (case c => k_is); (case k => k_is)))
    (case a_law_changed => k_is)
    (case d_law_changed => (refine' K11.gd_mk ?l ?c ?k; (case l => k_is); (case c => k_is); (case k => k_is)))
    (case a_law_is_part => k_is)
    (case d_law_is_part => (refine' K11.gd_mk ?l ?c ?k; (case l => k_is); (case c => k_is); (case k => k_is)))
    (case a_law_parts_right => k_is)
    (case d_law_parts_right => (refine' K11.gd_mk ?l ?c ?k; (case l => k_is); (case c => k_is); (case k => k_is)))
    (case a_law_right => k_is)
    (case d_law_right => (refine' K11.gd_mk ?l ?c ?k; (case l => k_is); (case c => k_is); (case k => k_is)))
    (case a_law => k_is)
    (case d_law => (refine' K11.gd_mk ?l ?c ?k; (case l => k_is); (case c => k_is); (case k => k_is)))
    (case aN => k_is)
    (case b_pieces => k_is)
    (case i_pieces => k_is)
    (case e_pieces => (refine' K11.gd_mk ?l ?c ?k; (case l => k_is); (case c => k_is); (case k => k_is)))
    (case b_repr => k_is)
    (case i_repr => k_is)
    (case e_repr => (refine' K11.gd_mk ?l ?c ?k; (case l => k_is); (case c => k_is); (case k => k_is)))
    (case b_nodes => k_is)
    (case i_nodes => k_is)
    (case e_nodes => (refine' K11.gd_mk ?l ?c ?k; (case l => k_is); (case c => k_is); (case k => k_is)))
    (case b_links => k_is)
    (case i_links => k_is)
    (case e_links => (refine' K11.gd_mk ?l ?c ?k; (case l => k_is); (case c => k_is); (case k => k_is)))
    (case b_len => k_is)
    (case i_len => k_is)
    (case e_len => (refine' K11.gd_mk ?l ?c ?k; (case l => k_is); (case c => k_is); (case k => k_is)))
    (case b_has_link => k_is)
    (case i_has_link => k_is)
    (case e_has_link => (refine' K11.gd_mk ?l ?c ?k; (case l => k_is); (case c => k_is); (case k => k_is)))
    (case b_contains => k_is)
    (case i_contains => k_is)
    (case e_contains => (refine' K11.gd_mk ?l ?c ?k; (case l => k_is); (case c => k_is); (case k => k_is)))
    (case b_neighbours => k_is)
    (case i_neighbours => k_is)
    (case e_neighbours => (refine' K11.gd_mk ?l ?c ?k; (case l => k_is); (case c => k_is); (case k => k_is)))
    (case b_piece_of => k_is)
    (case i_piece_of => k_is)
    (case e_piece_of => (refine' K11.gd_mk ?l ?c ?k; (case l => k_is); (case c => k_is); (case k => k_is)))
    (case b_is_part_of => k_is)
    (case i_is_part_of => k_is)
    (case e_is_part_of => (refine' K11.gd_mk ?l ?c ?k; (case l => k_is); (case c => k_is); (case k => k_is)))
    (case b_eq => k_is)
    (case i_eq => k_is)
    (case e_eq => (refine' K11.gd_mk ?l ?c ?k; (case l => k_is); (case c => k_is); (case k => k_is)))
    (case a_pairs => k_is)
    (case d_pairs => (refine' K11.gdd_mk ?l ?c ?k ?t; (case l => k_is); (case c => k_is); (case k => k_is); (case t => k_is)))
    (case b_init => k_is)
    (case i_init => k_is)
    (case e_init => (refine' K11.gdd_mk ?l ?c ?k ?t; (case l => k_is); (case c => k_is); (case k => k_is); (case t => k_is)))
    (case m_tup => (refine' K11.et_mk ?l; (case l => k_is)))
    (case q_at => k_is)
    (case q_get => k_is)
    (case q_tak => k_is)
    (case q_rec => k_is)
    (case e_size => (refine' K11.gd_mk ?l ?c ?k; (case l => k_is); (case c => k_is); (case k => k_is)))
    (case n_ga => k_is)
    (case n_hd => k_is)
    (case n_po => k_is)
    (case n_sa => k_is)
    (case n_mk => k_is)
    (case n_kp => k_is)
    (case n_n => k_is)
    (case n_l => k_is)
    (case n_r => k_is)
    (case t_ha => k_is)
    (case t_hn => k_is)
    (case t_tk => k_is)
    (case t_hm => k_is)
    (case t_ne => k_is)
    (case t_NoneType => k_is)
    (case t_bool => k_is)
    (case t_int => k_is)
    (case t_str => k_is)
    (case t_list => k_is)
    (case t_tuple => k_is)
    (case t_dict => k_is)
    (case t_own => k_is)
    (case o_cls => k_is)
    (case o_typ => k_is)
    (case o_NoneType => k_is)
    (case o_bool => k_is)
    (case o_int => k_is)
    (case o_str => k_is)
    (case o_list => k_is)
    (case o_tuple => k_is)
    (case o_dict => k_is)
    (case u_str => k_is)
    (case u_tuple => k_is)
    (case u_list => k_is)
    (case v_rd => k_is)
    (case v_ga => k_is)
    (case v_n => k_is)
    (case v_l => k_is)
    (case c_let => k_is)
    (case c_lon => k_is)
    (case z_len => k_is)
    (case z_isinstance => k_is)
    (case z_list => k_is)
    (case z_tuple => k_is)
    (case z_sorted => k_is)
    (case z_range => k_is)
    (case z_enumerate => k_is)
    (case z_zip => k_is)
    (case z_dict => k_is)
    (case z_str => k_is)
    (case z_int => k_is)
    (case z_abs => k_is)
    (case z_max => k_is)
    (case z_min => k_is)
    (case z_all => k_is)
    (case z_any => k_is)
    (case z_repr => k_is)
    (case z_divmod => k_is)
