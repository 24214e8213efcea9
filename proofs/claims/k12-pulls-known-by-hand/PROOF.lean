import PyProof.Rows.All
import Wide.All
import OpenK.AllK
import Wide.FinOn
import HandS.ForMost
import HandS.Wide
import HandS.IsInst
import HandS.Conv
import HandS.Style
import HandS.Star
import HandS.TupAny
import HandS.WordsDict
import HandS.More
import HandS.Exc
import HandS.Defaults
import HandS.WordsExc
import HandS.Property
import HandS.DictComp
import HandS.Strs
import KE.KStateDown
import HandS.Head0
import HandS.Head1
import HandS.Head2
import HandS.HeadEnd
import HandS.HeadHook1
import HandS.HeadHook2
import PySem.Challenge.RW_looselaces_k12_pulls_known_by_hand
set_option Elab.async false
set_option linter.all false
set_option maxRecDepth 100000
set_option maxHeartbeats 0
namespace LL
open PySem L2
/-- trees: data that nobody changes; scr is the script (read alone) -/
inductive T where
  | non | bl (b : Bool) | int (i : Int) | str (s : Str)
  | lst (ds : List T) | tup (ds : List T) | dct (kvs : List (Key × T))
  | ins (c : Nat) (fs : List (Str × T))
  | scr (ns : List Int)
/-- what a name holds: nothing that is known, a tree, the mutable cell n -/
inductive D where
  | und | t (x : T) | loc (n : Nat)
/-- what a cell holds -/
inductive Cel where
  | lst (ds : List D) | dct (kvs : List (Key × D)) | ins (c : Nat) (fs : List (Str × D))
abbrev Mem := List Cel
/-- where data are read: the written part, the classes, the region of the tree nodes, the cells' addresses, the heap -/
structure Cr where
  K : PySem.W.Frag
  cls : Nat → Addr
  reg : Addr → Prop
  al : List Addr
  H : Hp
/-- an address that a tree's node may have -/
def Cr.ok (c : Cr) (a : Addr) : Prop := a ∉ c.al ∧ c.reg a
mutual
def RepT (c : Cr) : T → V → Prop
  | .non, v => v = .non
  | .bl b, v => v = .bl b
  | .int i, v => v = .int i
  | .str s, v => v = .str s
  | .lst ds, v => ∃ a xs, v = .ref a ∧ c.H a = some (.lst xs) ∧ c.ok a ∧ RepTs c ds xs
  | .tup ds, v => ∃ a xs, v = .ref a ∧ SqT c.K c.H a xs ∧ RepTs c ds xs
  | .dct kvs, v => ∃ a ws, v = .ref a ∧ Rd c.H a (.dK ws) ∧ c.ok a ∧ RepTk c kvs ws
  | .ins k fs, v => ∃ a dx ws, v = .ref a ∧ c.H a = some (.ins (c.cls k) dx ws) ∧ c.ok a ∧ RepTf c fs ws
  | .scr ns, v => ∃ a, v = .ref a ∧ ((Rd c.H a (.lst (ns.map V.int)) ∧ c.ok a) ∨ ∀ H, SqL c.K H a (ns.map V.int))
def RepTs (c : Cr) : List T → List V → Prop
  | [], xs => xs = []
  | d :: ds, xs => ∃ x r, xs = x :: r ∧ RepT c d x ∧ RepTs c ds r
def RepTk (c : Cr) : List (Key × T) → List (Key × V) → Prop
  | [], xs => xs = []
  | (k, d) :: ds, xs => ∃ x r, xs = (k, x) :: r ∧ RepT c d x ∧ RepTk c ds r
def RepTf (c : Cr) : List (Str × T) → List (Str × V) → Prop
  | [], xs => xs = []
  | (k, d) :: ds, xs => ∃ x r, xs = (k, x) :: r ∧ RepT c d x ∧ RepTf c ds r
end
def Rep (c : Cr) : D → V → Prop
  | .und, _ => False
  | .t x, v => RepT c x v
  | .loc n, v => ∃ a, v = .ref a ∧ c.al[n]? = some a
def RepL (c : Cr) : List D → List V → Prop
  | [], xs => xs = []
  | d :: ds, xs => ∃ x r, xs = x :: r ∧ Rep c d x ∧ RepL c ds r
def RepK (c : Cr) : List (Key × D) → List (Key × V) → Prop
  | [], xs => xs = []
  | (k, d) :: ds, xs => ∃ x r, xs = (k, x) :: r ∧ Rep c d x ∧ RepK c ds r
def RepF (c : Cr) : List (Str × D) → List (Str × V) → Prop
  | [], xs => xs = []
  | (k, d) :: ds, xs => ∃ x r, xs = (k, x) :: r ∧ Rep c d x ∧ RepF c ds r
/-- c' reads all trees that c reads -/
structure LeT (c c' : Cr) : Prop where
  k : c'.K = c.K
  cl : c'.cls = c.cls
  ls : ∀ a xs, c.H a = some (.lst xs) → c.ok a → c'.H a = some (.lst xs) ∧ c'.ok a
  dk : ∀ a ws, Rd c.H a (.dK ws) → c.ok a → Rd c'.H a (.dK ws) ∧ c'.ok a
  im : ∀ a C dx ws, c.H a = some (.ins C dx ws) → c.ok a → c'.H a = some (.ins C dx ws) ∧ c'.ok a
  tp : ∀ a xs, Rd c.H a (.tup xs) → Rd c'.H a (.tup xs)
  sc : ∀ a xs, Rd c.H a (.lst xs) → c.ok a → Rd c'.H a (.lst xs) ∧ c'.ok a
/-- .. and the cells -/
structure Le (c c' : Cr) : Prop extends LeT c c' where
  lc : ∀ (n : Nat) a, c.al[n]? = some a → c'.al[n]? = some a
theorem sqT_le {c c' : Cr} (L : LeT c c') {a : Addr} {xs : List V} (h : SqT c.K c.H a xs) : SqT c'.K c'.H a xs := by
  rcases h with h | h
  · exact .inl (L.tp a _ h)
  · refine .inr ?_; rw [L.k]; exact h
mutual
theorem RepT.le {c c' : Cr} (L : LeT c c') : ∀ {d : T} {v : V}, RepT c d v → RepT c' d v
  | .non, _, h => by simp only [RepT] at h ⊢; exact h
  | .bl _, _, h => by simp only [RepT] at h ⊢; exact h
  | .int _, _, h => by simp only [RepT] at h ⊢; exact h
  | .str _, _, h => by simp only [RepT] at h ⊢; exact h
  | .lst ds, v, h => by
    simp only [RepT] at h ⊢
    obtain ⟨a, xs, e, h1, h2, h3⟩ := h
    exact ⟨a, xs, e, (L.ls a _ h1 h2).1, (L.ls a _ h1 h2).2, RepTs.le L h3⟩
  | .tup ds, v, h => by
    simp only [RepT] at h ⊢
    obtain ⟨a, xs, e, h1, h2⟩ := h
    exact ⟨a, xs, e, sqT_le L h1, RepTs.le L h2⟩
  | .dct kvs, v, h => by
    simp only [RepT] at h ⊢
    obtain ⟨a, ws, e, h1, h2, h3⟩ := h
    exact ⟨a, ws, e, (L.dk a _ h1 h2).1, (L.dk a _ h1 h2).2, RepTk.le L h3⟩
  | .ins k fs, v, h => by
    simp only [RepT] at h ⊢
    obtain ⟨a, dx, ws, e, h1, h2, h3⟩ := h
    exact ⟨a, dx, ws, e, by rw [L.cl]; exact (L.im a _ _ _ h1 h2).1, (L.im a _ _ _ h1 h2).2, RepTf.le L h3⟩
  | .scr ns, v, h => by
    simp only [RepT] at h ⊢
    obtain ⟨a, e, ⟨h1, h2⟩ | h1⟩ := h
    · exact ⟨a, e, .inl (L.sc a _ h1 h2)⟩
    · exact ⟨a, e, .inr (by rw [L.k]; exact h1)⟩
theorem RepTs.le {c c' : Cr} (L : LeT c c') : ∀ {ds : List T} {xs : List V}, RepTs c ds xs → RepTs c' ds xs
  | [], _, h => by simp only [RepTs] at h ⊢; exact h
  | d :: ds, _, h => by
    simp only [RepTs] at h ⊢
    obtain ⟨x, r, e, h1, h2⟩ := h
    exact ⟨x, r, e, RepT.le L h1, RepTs.le L h2⟩
theorem RepTk.le {c c' : Cr} (L : LeT c c') : ∀ {ds : List (Key × T)} {xs : List (Key × V)}, RepTk c ds xs → RepTk c' ds xs
  | [], _, h => by simp only [RepTk] at h ⊢; exact h
  | (k, d) :: ds, _, h => by
    simp only [RepTk] at h ⊢
    obtain ⟨x, r, e, h1, h2⟩ := h
    exact ⟨x, r, e, RepT.le L h1, RepTk.le L h2⟩
theorem RepTf.le {c c' : Cr} (L : LeT c c') : ∀ {ds : List (Str × T)} {xs : List (Str × V)}, RepTf c ds xs → RepTf c' ds xs
  | [], _, h => by simp only [RepTf] at h ⊢; exact h
  | (k, d) :: ds, _, h => by
    simp only [RepTf] at h ⊢
    obtain ⟨x, r, e, h1, h2⟩ := h
    exact ⟨x, r, e, RepT.le L h1, RepTf.le L h2⟩
end
theorem Rep.le {c c' : Cr} (L : Le c c') : ∀ {d : D} {v : V}, Rep c d v → Rep c' d v
  | .und, _, h => h
  | .t _, _, h => RepT.le L.toLeT h
  | .loc n, _, ⟨a, e, h⟩ => ⟨a, e, L.lc n a h⟩
theorem RepL.le {c c' : Cr} (L : Le c c') : ∀ {ds : List D} {xs : List V}, RepL c ds xs → RepL c' ds xs
  | [], _, h => h
  | _ :: _, _, ⟨x, r, e, h1, h2⟩ => ⟨x, r, e, Rep.le L h1, RepL.le L h2⟩
theorem RepK.le {c c' : Cr} (L : Le c c') : ∀ {ds : List (Key × D)} {xs : List (Key × V)}, RepK c ds xs → RepK c' ds xs
  | [], _, h => h
  | _ :: _, _, ⟨x, r, e, h1, h2⟩ => ⟨x, r, e, Rep.le L h1, RepK.le L h2⟩
theorem RepF.le {c c' : Cr} (L : Le c c') : ∀ {ds : List (Str × D)} {xs : List (Str × V)}, RepF c ds xs → RepF c' ds xs
  | [], _, h => h
  | _ :: _, _, ⟨x, r, e, h1, h2⟩ => ⟨x, r, e, Rep.le L h1, RepF.le L h2⟩
theorem RepL.ofT {c : Cr} : ∀ {ds : List T} {xs : List V}, RepTs c ds xs → RepL c (ds.map .t) xs
  | [], _, h => by simp only [RepTs] at h; exact h
  | _ :: _, _, h => by simp only [RepTs] at h; obtain ⟨x, r, e, h1, h2⟩ := h; exact ⟨x, r, e, h1, RepL.ofT h2⟩
theorem RepL.toT {c : Cr} : ∀ {ds : List T} {xs : List V}, RepL c (ds.map .t) xs → RepTs c ds xs
  | [], _, h => by simp only [RepTs]; exact h
  | _ :: _, _, ⟨x, r, e, h1, h2⟩ => by simp only [RepTs]; exact ⟨x, r, e, h1, RepL.toT h2⟩
theorem RepK.ofT {c : Cr} : ∀ {ds : List (Key × T)} {xs : List (Key × V)}, RepTk c ds xs → RepK c (ds.map fun kv => (kv.1, .t kv.2)) xs
  | [], _, h => by simp only [RepTk] at h; exact h
  | (_, _) :: _, _, h => by simp only [RepTk] at h; obtain ⟨x, r, e, h1, h2⟩ := h; exact ⟨x, r, e, h1, RepK.ofT h2⟩
theorem RepK.toT {c : Cr} : ∀ {ds : List (Key × T)} {xs : List (Key × V)}, RepK c (ds.map fun kv => (kv.1, .t kv.2)) xs → RepTk c ds xs
  | [], _, h => by simp only [RepTk]; exact h
  | (_, _) :: _, _, ⟨x, r, e, h1, h2⟩ => by simp only [RepTk]; exact ⟨x, r, e, h1, RepK.toT h2⟩
theorem RepF.ofT {c : Cr} : ∀ {ds : List (Str × T)} {xs : List (Str × V)}, RepTf c ds xs → RepF c (ds.map fun kv => (kv.1, .t kv.2)) xs
  | [], _, h => by simp only [RepTf] at h; exact h
  | (_, _) :: _, _, h => by simp only [RepTf] at h; obtain ⟨x, r, e, h1, h2⟩ := h; exact ⟨x, r, e, h1, RepF.ofT h2⟩
theorem RepF.toT {c : Cr} : ∀ {ds : List (Str × T)} {xs : List (Str × V)}, RepF c (ds.map fun kv => (kv.1, .t kv.2)) xs → RepTf c ds xs
  | [], _, h => by simp only [RepTf]; exact h
  | (_, _) :: _, _, ⟨x, r, e, h1, h2⟩ => by simp only [RepTf]; exact ⟨x, r, e, h1, RepF.toT h2⟩
/-- data that are all trees -/
def asTs : List D → Option (List T)
  | [] => some []
  | .t x :: r => match asTs r with | some xs => some (x :: xs) | none => none
  | _ :: _ => none
def asTk : List (Key × D) → Option (List (Key × T))
  | [] => some []
  | (k, .t x) :: r => match asTk r with | some xs => some ((k, x) :: xs) | none => none
  | _ :: _ => none
def asTf : List (Str × D) → Option (List (Str × T))
  | [] => some []
  | (k, .t x) :: r => match asTf r with | some xs => some ((k, x) :: xs) | none => none
  | _ :: _ => none
theorem asTs_eq : ∀ {ds : List D} {ts : List T}, asTs ds = some ts → ds = ts.map .t
  | [], _, e => by simp only [asTs] at e; cases e; rfl
  | .t x :: r, _, e => by
    simp only [asTs] at e
    split at e
    · cases e; rename_i e1; rw [asTs_eq e1]; rfl
    · cases e
  | .und :: _, _, e => by simp only [asTs] at e; cases e
  | .loc _ :: _, _, e => by simp only [asTs] at e; cases e
theorem asTk_eq : ∀ {ds : List (Key × D)} {ts : List (Key × T)}, asTk ds = some ts → ds = ts.map fun kv => (kv.1, .t kv.2)
  | [], _, e => by simp only [asTk] at e; cases e; rfl
  | (_, .t x) :: r, _, e => by
    simp only [asTk] at e
    split at e
    · cases e; rename_i e1; rw [asTk_eq e1]; rfl
    · cases e
  | (_, .und) :: _, _, e => by simp only [asTk] at e; cases e
  | (_, .loc _) :: _, _, e => by simp only [asTk] at e; cases e
theorem asTf_eq : ∀ {ds : List (Str × D)} {ts : List (Str × T)}, asTf ds = some ts → ds = ts.map fun kv => (kv.1, .t kv.2)
  | [], _, e => by simp only [asTf] at e; cases e; rfl
  | (_, .t x) :: r, _, e => by
    simp only [asTf] at e
    split at e
    · cases e; rename_i e1; rw [asTf_eq e1]; rfl
    · cases e
  | (_, .und) :: _, _, e => by simp only [asTf] at e; cases e
  | (_, .loc _) :: _, _, e => by simp only [asTf] at e; cases e
@[simp] theorem asTs_map : ∀ ts : List T, asTs (ts.map .t) = some ts
  | [] => rfl
  | x :: r => by simp only [List.map_cons, asTs, asTs_map r]
@[simp] theorem asTk_map : ∀ ts : List (Key × T), asTk (ts.map fun kv => (kv.1, .t kv.2)) = some ts
  | [] => rfl
  | (k, x) :: r => by simp only [List.map_cons, asTk, asTk_map r]
@[simp] theorem asTf_map : ∀ ts : List (Str × T), asTf (ts.map fun kv => (kv.1, .t kv.2)) = some ts
  | [] => rfl
  | (k, x) :: r => by simp only [List.map_cons, asTf, asTf_map r]
end LL
namespace LL
open PySem L2
/-- an exception of the package: its class, its fields -/
structure Xn where
  c : Nat
  fs : List (Str × T)
/-- where a def runs: the written part, the classes, the region of trees (all that is new is in it), the wish of what is raised -/
structure Fc where
  K : PySem.W.Frag
  cls : Nat → Addr
  xcl : Nat → Addr
  reg : Addr → Prop
  E : XK
def Fc.cr (C : Fc) (al : List Addr) (H : Hp) : Cr := ⟨C.K, C.cls, C.reg, al, H⟩
/-- what stands at a cell's address -/
def CellO (c : Cr) : Cel → HO → Prop
  | .lst ds, o => ∃ xs, o = .lst xs ∧ RepL c ds xs
  | .dct kvs, o => ∃ ws, o = .dK ws ∧ RepK c kvs ws
  | .ins k fs, o => ∃ dx ws, o = .ins (c.cls k) dx ws ∧ RepF c fs ws
def Cell (c : Cr) (a : Addr) (d : Cel) : Prop := ∃ o, c.H a = some o ∧ CellO c d o
structure Cells (C : Fc) (al : List Addr) (M : Mem) (H : Hp) : Prop where
  len : al.length = M.length
  nd : al.Nodup
  cell : ∀ (n : Nat) a d, al[n]? = some a → M[n]? = some d → Cell (C.cr al H) a d
  dom : ∀ a, H a = none → C.reg a
structure Rel (C : Fc) (al : List Addr) (ρ : List D) (M : Mem) (σ : St) (H : Hp) : Prop extends Cells C al M H where
  sl : ρ.length = σ.length
  slot : ∀ (i : Nat) d, ρ[i]? = some d → d ≠ .und → ∃ v, σ[i]? = some (some v) ∧ Rep (C.cr al H) d v
/-- a step: cells are added, what is no cell stays -/
structure Stp (al : List Addr) (H : Hp) (al' : List Addr) (H' : Hp) : Prop where
  pre : ∃ be, al' = al ++ be ∧ ∀ a ∈ be, H a = none
  keep : ∀ a o, a ∉ al → H a = some o → H' a = some o
  tup : ∀ a xs, Rd H a (.tup xs) → Rd H' a (.tup xs)
  dom : ∀ a, H a ≠ none → H' a ≠ none
theorem Stp.refl (al : List Addr) (H : Hp) : Stp al H al H := ⟨⟨[], by simp, fun _ h => nomatch h⟩, fun _ _ _ h => h, fun _ _ h => h, fun _ h => h⟩
theorem Stp.trans {al al1 al2 : List Addr} {H H1 H2 : Hp} (a : Stp al H al1 H1) (b : Stp al1 H1 al2 H2) : Stp al H al2 H2 := by
  obtain ⟨be, rfl, n1⟩ := a.pre
  obtain ⟨ga, rfl, n2⟩ := b.pre
  refine ⟨⟨be ++ ga, by simp, fun x hx => ?_⟩, fun x o hx e => ?_, fun x xs h => b.tup x xs (a.tup x xs h), fun x h => b.dom x (a.dom x h)⟩
  · rcases List.mem_append.1 hx with h | h
    · exact n1 x h
    · cases e : H x with
      | none => rfl
      | some o => exact absurd (n2 x h) (a.dom x (by rw [e]; simp))
  · have h1 := a.keep x o hx e
    refine b.keep x o (fun hm => ?_) h1
    rcases List.mem_append.1 hm with h | h
    · exact hx h
    · exact absurd (n1 x h) (by rw [e]; simp)
theorem Stp.back {al al' : List Addr} {H H' : Hp} (s : Stp al H al' H') {a : Addr} (h : H' a = none) : H a = none := by
  cases e : H a with
  | none => rfl
  | some o => exact absurd h (s.dom a (by rw [e]; simp))
theorem Stp.le {C : Fc} {al al' : List Addr} {H H' : Hp} (s : Stp al H al' H') : Le (C.cr al H) (C.cr al' H') := by
  obtain ⟨be, rfl, n1⟩ := s.pre
  have hn : ∀ a o, H a = some o → a ∉ al → a ∉ al ++ be := fun a o e h hm => by
    rcases List.mem_append.1 hm with h' | h'
    · exact h h'
    · exact absurd (n1 a h') (by rw [e]; simp)
  have kr : ∀ a u, Rd H a u → (C.cr al H).ok a → Rd H' a u ∧ (C.cr (al ++ be) H').ok a := fun a u h o => by
    rcases h with h | ⟨ob, h⟩
    · exact ⟨.inl (s.keep a _ o.1 h), hn a _ h o.1, o.2⟩
    · exact ⟨.inr ⟨ob, s.keep a _ o.1 h⟩, hn a _ h o.1, o.2⟩
  refine ⟨⟨rfl, rfl, fun a u h o => ⟨s.keep a _ o.1 h, hn a _ h o.1, o.2⟩, fun a u => kr a _, fun a c dx ws h o => ⟨s.keep a _ o.1 h, hn a _ h o.1, o.2⟩, s.tup, fun a xs => kr a _⟩, fun n a h => ?_⟩
  have hl : n < al.length := (List.getElem?_eq_some_iff.1 h).1
  show (al ++ be)[n]? = some a
  rw [List.getElem?_append_left hl]; exact h
/-- what comes: a value, an exception, or no promise -/
inductive R (T : Type) where
  | ok (x : T) (M : Mem) | exc (e : Xn) (M : Mem) | bad
def R.bind {T U : Type} (r : R T) (k : T → Mem → R U) : R U :=
  match r with
  | .ok x M => k x M
  | .exc e M => .exc e M
  | .bad => .bad
/-- an exception stands -/
def XAt (c : Cr) (e : Xn) (od : Option Addr) : Prop :=
  match od with
  | none => e.fs = []
  | some d => ∃ ws, c.H d = some (.xd ws) ∧ RepTf c e.fs ws
def XOut (C : Fc) (al : List Addr) (H : Hp) (e : Xn) (M : Mem) : Prop :=
  ∀ al' H' od, Stp al H al' H' → Cells C al' M H' → XAt (C.cr al' H') e od → C.E (.ref (C.xcl e.c)) od H'
def Out (C : Fc) (al : List Addr) (H : Hp) {T : Type} (r : R T) (k : T → List Addr → Mem → Hp → Prop) : Prop :=
  match r with
  | .ok d M => ∀ al' H', Stp al H al' H' → k d al' M H'
  | .exc e M => XOut C al H e M
  | .bad => False
theorem Out.mono {C : Fc} {al : List Addr} {H : Hp} {T : Type} {r : R T} {k k' : T → List Addr → Mem → Hp → Prop} (h : Out C al H r k) (m : ∀ d al' M H', Stp al H al' H' → k d al' M H' → k' d al' M H') : Out C al H r k' := by
  cases r with
  | ok d M => exact fun al' H' s => m _ _ _ _ s (h al' H' s)
  | exc e M => exact h
  | bad => exact h
theorem XOut.step {C : Fc} {al al1 : List Addr} {H H1 : Hp} {e : Xn} {M : Mem} (s : Stp al H al1 H1) (h : XOut C al H e M) : XOut C al1 H1 e M :=
  fun al' H' od s' => h al' H' od (s.trans s')
theorem Out.step {C : Fc} {al al1 : List Addr} {H H1 : Hp} {T : Type} {r : R T} {k : T → List Addr → Mem → Hp → Prop} (s : Stp al H al1 H1) (h : Out C al H r k) : Out C al1 H1 r k := by
  cases r with
  | ok d M => exact fun al' H' s' => h al' H' (s.trans s')
  | exc e M => exact XOut.step s h
  | bad => exact h
theorem Out.bind {C : Fc} {al : List Addr} {H : Hp} {T U : Type} {r : R T} {g : T → Mem → R U} {k : U → List Addr → Mem → Hp → Prop} (h : Out C al H (r.bind g) k) :
    Out C al H r (fun d al' M H' => Out C al' H' (g d M) k) := by
  cases r with
  | ok d M => exact fun al' H' s => Out.step s h
  | exc e M => exact h
  | bad => exact h
abbrev FE := List D → Mem → R D
abbrev FT := List D → Mem → R Bool
abbrev FA := List D → Mem → R (List D)
/-- what is wanted of a value that came -/
def KE (C : Fc) (ρ : List D) (σ : St) (Q : VK) : D → List Addr → Mem → Hp → Prop := fun d al M H => Rel C al ρ M σ H → ∀ v, Rep (C.cr al H) d v → Q v H
def KT (C : Fc) (ρ : List D) (σ : St) (Q : Bool → Hp → Prop) : Bool → List Addr → Mem → Hp → Prop := fun d al M H => Rel C al ρ M σ H → Q d H
def KA (C : Fc) (ρ : List D) (σ : St) (Q : List V → Hp → Prop) : List D → List Addr → Mem → Hp → Prop := fun d al M H => Rel C al ρ M σ H → ∀ vs, RepL (C.cr al H) d vs → Q vs H
def tD (C : Fc) (f : FE) : TE := fun σ H Q => ∃ al ρ M, Rel C al ρ M σ H ∧ Out C al H (f ρ M) (KE C ρ σ Q)
def tT (C : Fc) (f : FT) : TT := fun σ H Q => ∃ al ρ M, Rel C al ρ M σ H ∧ Out C al H (f ρ M) (KT C ρ σ Q)
def tA (C : Fc) (f : FA) : TA := fun σ H Q => ∃ al ρ M, Rel C al ρ M σ H ∧ Out C al H (f ρ M) (KA C ρ σ Q)
abbrev PD (C : Fc) (X : Cx) (e : Expr) (f : FE) : Prop := PE X e (tD C f)
abbrev PDT (C : Fc) (X : Cx) (e : Expr) (f : FT) : Prop := PT X e (tT C f)
abbrev PDA (C : Fc) (X : Cx) (es : List Expr) (f : FA) : Prop := PA X es (tA C f)
theorem PE.wk {X : Cx} {e : Expr} {t u : TE} (h : PE X e t) (m : ∀ σ H Q, u σ H Q → t σ H Q) : PE X e u := ⟨fun p s σ H Q I hu => h.run p s σ H Q I (m σ H Q hu)⟩
theorem PT.wk {X : Cx} {e : Expr} {t u : TT} (h : PT X e t) (m : ∀ σ H Q, u σ H Q → t σ H Q) : PT X e u := ⟨fun p s σ H Q I hu => h.run p s σ H Q I (m σ H Q hu)⟩
theorem PA.wk {X : Cx} {e : List Expr} {t u : TA} (h : PA X e t) (m : ∀ σ H Q, u σ H Q → t σ H Q) : PA X e u := ⟨fun pos p s σ H Q I hu => h.run pos p s σ H Q I (m σ H Q hu)⟩
/-- the value as it is, nothing changed -/
theorem Out.here {C : Fc} {al : List Addr} {H : Hp} {T : Type} {d : T} {M : Mem} {k : T → List Addr → Mem → Hp → Prop} (h : Out C al H (R.ok d M) k) : k d al M H := h al H (Stp.refl al H)
section
variable {C : Fc} {X : Cx}
/-- a slot -/
def eVar (i : Nat) : FE := fun ρ M => match ρ[i]? with | some .und => .bad | some d => .ok d M | none => .bad
theorem pd_var {i : Nat} {x : Str} {pos : Pos} (hN : X.N[i]? = some x) (hv : Vis X.env.scope x) (hd : (x == ("__debug__" : Str)) = false := by decide) (hcd : (x == ("__classdict__" : Str)) = false := by decide) : PD C X (.Name x pos) (eVar i) := by
  refine PE.wk (pe_var hN hv hd hcd) ?_
  rintro σ H Q ⟨al, ρ, M, r, h⟩
  unfold eVar at h
  cases e : ρ[i]? with
  | none => rw [e] at h; exact h.elim
  | some d =>
    rw [e] at h
    have hu : d ≠ .und := by rintro rfl; exact h.elim
    obtain ⟨v, h1, h2⟩ := r.slot i d e hu
    refine ⟨v, h1, ?_⟩
    have h' : Out C al H (R.ok d M) (KE C ρ σ Q) := by cases d <;> first | exact h | exact absurd rfl hu
    exact h'.here r v h2
/-- a constant -/
def eC (d : T) : FE := fun _ M => .ok (.t d) M
theorem tD_C {d : T} {v : V} (hv : ∀ c, RepT c d v) : ∀ σ H Q, tD C (eC d) σ H Q → tC v σ H Q := by
  rintro σ H Q ⟨al, ρ, M, r, h⟩
  exact Out.here h r v (hv _)
theorem pd_int {i j pos} : PD C X (.Constant (.int i) j pos) (eC (.int i)) := PE.wk pe_int (tD_C fun c => by simp only [RepT])
theorem pd_bl {b j pos} : PD C X (.Constant (.bool b) j pos) (eC (.bl b)) := PE.wk pe_bl (tD_C fun c => by simp only [RepT])
theorem pd_non {j pos} : PD C X (.Constant .none j pos) (eC .non) := PE.wk pe_non (tD_C fun c => by simp only [RepT])
theorem pd_str {x j pos} : PD C X (.Constant (.str x) j pos) (eC (.str x)) := PE.wk pe_str (tD_C fun c => by simp only [RepT])
theorem pd_globI {x : Str} {i : Int} {t : Tok} {pos : Pos} (hg : Gl X x) (hm : X.mg x = some (.int i t)) (hd : (x == ("__debug__" : Str)) = false := by decide) : PD C X (.Name x pos) (eC (.int i)) := PE.wk (pe_glob (v := .int i) hg hm ⟨t, rfl⟩ hd) (tD_C fun c => by simp only [RepT])
theorem pd_globS {x : Str} {z : Str} {t : Tok} {pos : Pos} (hg : Gl X x) (hm : X.mg x = some (.str z t)) (hd : (x == ("__debug__" : Str)) = false := by decide) : PD C X (.Name x pos) (eC (.str z)) := PE.wk (pe_glob (v := .str z) hg hm ⟨t, rfl⟩ hd) (tD_C fun c => by simp only [RepT])
/-- a two-place operation on data -/
abbrev F2 := D → D → Mem → R D
def eOp (F : F2) (f g : FE) : FE := fun ρ M => (f ρ M).bind fun d M1 => (g ρ M1).bind fun e M2 => F d e M2
/-- r does what F says -/
def OpS (C : Fc) (r : R2) (F : F2) : Prop := ∀ al ρ M σ H d e x y Q, Rel C al ρ M σ H → Rep (C.cr al H) d x → Rep (C.cr al H) e y → Out C al H (F d e M) (KE C ρ σ Q) → r x y H Q
theorem tD_op {r : R2} {F : F2} {f g : FE} (ho : OpS C r F) : ∀ σ H Q, tD C (eOp F f g) σ H Q → tOp r (tD C f) (tD C g) σ H Q := by
  rintro σ H Q ⟨al, ρ, M, rl, h⟩
  refine ⟨al, ρ, M, rl, Out.mono (Out.bind h) fun d al1 M1 H1 s1 h1 r1 x hx => ?_⟩
  refine ⟨al1, ρ, M1, r1, Out.mono (Out.bind h1) fun e al2 M2 H2 s2 h2 r2 y hy => ?_⟩
  exact ho al2 ρ M2 σ H2 d e x y Q r2 (Rep.le s2.le hx) hy h2
theorem pd_op {op : Operator} {r : R2} {F : F2} {a b : Expr} {f g : FE} {pos : Pos} (hs : OpS C r F) (ho : OpR X (binaryOp op) r) (ha : PD C X a f) (hb : PD C X b g) : PD C X (.BinOp a op b pos) (eOp F f g) :=
  PE.wk (pe_op ho ha hb) (tD_op hs)
theorem pd_cmp {op : CmpOp} {r : R2} {F : F2} {a b : Expr} {f g : FE} {pos : Pos} (hs : OpS C r F) (ho : OpR X (compareOp op) r) (ha : PD C X a f) (hb : PD C X b g) (hm : behindInMarks op b = false) : PD C X (.Compare a [op] [b] pos) (eOp F f g) :=
  PE.wk (pe_cmpR ho ha hb hm) (tD_op hs)
/-- a bool as a test -/
def asT (f : FE) : FT := fun ρ M => (f ρ M).bind fun d M1 => match d with | .t (.bl b) => .ok b M1 | _ => .bad
theorem tT_of {f : FE} {t : TE} (m : ∀ σ H Q, tD C f σ H Q → t σ H Q) : ∀ σ H Q, tT C (asT f) σ H Q → tTest t σ H Q := by
  rintro σ H Q ⟨al, ρ, M, rl, h⟩
  refine m σ H _ ⟨al, ρ, M, rl, Out.mono (Out.bind h) fun d al1 M1 H1 s1 h1 r1 x hx => ?_⟩
  split at h1
  · simp only [Rep, RepT] at hx
    exact ⟨_, hx, Out.here h1 r1⟩
  · exact h1.elim
theorem pt_cmpD {op : CmpOp} {r : R2} {F : F2} {a b : Expr} {f g : FE} {pos : Pos} (hs : OpS C r F) (ho : OpR X (compareOp op) r) (ha : PD C X a f) (hb : PD C X b g) (hm : behindInMarks op b = false) : PDT C X (.Compare a [op] [b] pos) (asT (eOp F f g)) :=
  PT.wk (pt_cmpR ho ha hb hm) (tT_of (tD_op hs))
theorem pt_valD {e : Expr} {f : FE} (h : PD C X e f) (he : ∀ whole, isTrue e X.env whole = (do let v ← whole; standAt e.pos; holding [v] (truthy v)) := by intro _; rfl) : PDT C X e (asT f) :=
  PT.wk (pt_val h he) (tT_of fun _ _ _ h => h)
end
end LL
namespace LL
open PySem L2
theorem CellO.le {c c' : Cr} (L : Le c c') {d : Cel} {o : HO} (h : CellO c d o) : CellO c' d o := by
  cases d with
  | lst ds => obtain ⟨xs, e, h⟩ := h; exact ⟨xs, e, RepL.le L h⟩
  | dct ds => obtain ⟨xs, e, h⟩ := h; exact ⟨xs, e, RepK.le L h⟩
  | ins k fs => obtain ⟨dx, xs, e, h⟩ := h; exact ⟨dx, xs, by rw [L.cl]; exact e, RepF.le L h⟩
theorem CellO.notTup {c : Cr} {d : Cel} {o : HO} (h : CellO c d o) : (∀ xs, o ≠ .tup xs) ∧ ∀ ob u, o ≠ .frz ob u := by
  cases d with
  | lst ds => obtain ⟨xs, rfl, h⟩ := h; exact ⟨fun _ e => (nomatch e), fun _ _ e => (nomatch e)⟩
  | dct ds => obtain ⟨xs, rfl, h⟩ := h; exact ⟨fun _ e => (nomatch e), fun _ _ e => (nomatch e)⟩
  | ins k fs => obtain ⟨dx, xs, rfl, h⟩ := h; exact ⟨fun _ e => (nomatch e), fun _ _ e => (nomatch e)⟩
section
variable {C : Fc} {al : List Addr} {ρ : List D} {M : Mem} {σ : St} {H : Hp}
theorem Cells.get (r : Cells C al M H) {a : Addr} (h : a ∈ al) : ∃ (n : Nat) (d : Cel), al[n]? = some a ∧ M[n]? = some d ∧ Cell (C.cr al H) a d := by
  obtain ⟨n, hn, e⟩ := List.getElem_of_mem h
  have h1 : al[n]? = some a := by rw [List.getElem?_eq_getElem hn, e]
  have h2 : n < M.length := by rw [← r.len]; exact hn
  exact ⟨n, M[n], h1, List.getElem?_eq_getElem h2, r.cell n a _ h1 (List.getElem?_eq_getElem h2)⟩
theorem Cells.some (r : Cells C al M H) {a : Addr} (h : a ∈ al) : ∃ o, H a = some o ∧ (∀ xs, o ≠ .tup xs) ∧ ∀ ob u, o ≠ .frz ob u := by
  obtain ⟨n, d, _, _, o, h1, h2⟩ := r.get h
  exact ⟨o, h1, h2.notTup⟩
theorem Cells.new (r : Cells C al M H) {p : Addr} (h : H p = none) : p ∉ al := fun hp => by
  obtain ⟨o, e, _⟩ := r.some hp
  rw [h] at e; cases e
/-- a new object, no cell -/
theorem stp_new (r : Cells C al M H) {p : Addr} {o : HO} (h : H p = none) : Stp al H al (upd H p o) :=
  ⟨⟨[], by simp, fun _ h => nomatch h⟩, fun a u _ e => by rw [upd_ne (ne_of_none e h)]; exact e,
    fun a xs e => by
      rcases e with e | ⟨ob, e⟩
      · exact .inl (by rw [upd_ne (ne_of_none e h)]; exact e)
      · exact .inr ⟨ob, by rw [upd_ne (ne_of_none e h)]; exact e⟩,
    fun a e => by
      unfold upd
      split
      · exact fun z => nomatch z
      · exact e⟩
theorem Cells.stp {H' : Hp} (r : Cells C al M H) (s : Stp al H al H') (hk : ∀ a ∈ al, H' a = H a) : Cells C al M H' :=
  ⟨r.len, r.nd, fun n a d h1 h2 => by
    obtain ⟨o, e1, e2⟩ := r.cell n a d h1 h2
    exact ⟨o, (hk a (List.mem_of_getElem? h1)).trans e1, e2.le s.le⟩, fun a h => r.dom a (by cases e : H a with | none => rfl | some o => exact absurd h (s.dom a (by rw [e]; simp)))⟩
theorem Rel.stp {H' : Hp} (r : Rel C al ρ M σ H) (s : Stp al H al H') (hk : ∀ a ∈ al, H' a = H a) : Rel C al ρ M σ H' :=
  { r.toCells.stp s hk with
    sl := r.sl
    slot := fun i d h hu => by
      obtain ⟨v, h1, h2⟩ := r.slot i d h hu
      exact ⟨v, h1, Rep.le s.le h2⟩ }
theorem Rel.new (r : Rel C al ρ M σ H) {p : Addr} {o : HO} (h : H p = none) : Rel C al ρ M σ (upd H p o) :=
  r.stp (stp_new r.toCells h) fun a ha => upd_ne (fun e => (r.toCells.new h) (e ▸ ha))
theorem Cells.okNew (r : Cells C al M H) {p : Addr} {o : HO} (h : H p = none) : (C.cr al (upd H p o)).ok p := ⟨r.new h, r.dom p h⟩
/-- a new list, tuple, dict: trees -/
theorem Rel.newL (r : Rel C al ρ M σ H) {p : Addr} {ds : List T} {xs : List V} (h : H p = none) (hx : RepTs (C.cr al H) ds xs) : RepT (C.cr al (upd H p (.lst xs))) (.lst ds) (.ref p) := by
  simp only [RepT]
  exact ⟨p, xs, rfl, upd_same, r.toCells.okNew h, RepTs.le (stp_new r.toCells h).le.toLeT hx⟩
theorem Rel.newT (r : Rel C al ρ M σ H) {p : Addr} {ds : List T} {xs : List V} (h : H p = none) (hx : RepTs (C.cr al H) ds xs) : RepT (C.cr al (upd H p (.tup xs))) (.tup ds) (.ref p) := by
  simp only [RepT]
  exact ⟨p, xs, rfl, SqT.of upd_same, RepTs.le (stp_new r.toCells h).le.toLeT hx⟩
theorem Rel.newK (r : Rel C al ρ M σ H) {p : Addr} {ds : List (Key × T)} {xs : List (Key × V)} (h : H p = none) (hx : RepTk (C.cr al H) ds xs) : RepT (C.cr al (upd H p (.dK xs))) (.dct ds) (.ref p) := by
  simp only [RepT]
  exact ⟨p, xs, rfl, .inl upd_same, r.toCells.okNew h, RepTk.le (stp_new r.toCells h).le.toLeT hx⟩
/-- a new cell -/
theorem stp_cell (r : Cells C al M H) {p : Addr} {o : HO} (h : H p = none) : Stp al H (al ++ [p]) (upd H p o) :=
  ⟨⟨[p], rfl, fun a ha => by rw [List.mem_singleton.1 ha]; exact h⟩, (stp_new (o := o) r h).keep, (stp_new (o := o) r h).tup, (stp_new (o := o) r h).dom⟩
theorem Rel.cell_new (r : Rel C al ρ M σ H) {p : Addr} {d : Cel} {o : HO} (h : H p = none) (hd : CellO (C.cr al H) d o) : Rel C (al ++ [p]) ρ (M ++ [d]) σ (upd H p o) ∧ Rep (C.cr (al ++ [p]) (upd H p o)) (.loc M.length) (.ref p) := by
  have s := stp_cell (o := o) r.toCells h
  refine ⟨⟨⟨by simp [r.len], ?_, fun n a e h1 h2 => ?_, fun a e => r.dom a (s.back e)⟩, r.sl, fun i d e hu => ?_⟩, ?_⟩
  · refine List.nodup_append.2 ⟨r.nd, by simp, fun a ha b hb e => ?_⟩
    rw [List.mem_singleton.1 hb] at e
    exact r.toCells.new h (e ▸ ha)
  · by_cases hn : n < al.length
    · rw [List.getElem?_append_left hn] at h1
      rw [List.getElem?_append_left (by rw [← r.len]; exact hn)] at h2
      obtain ⟨o', e1, e2⟩ := r.cell n a e h1 h2
      refine ⟨o', ?_, e2.le s.le⟩
      show upd H p o a = some o'
      rw [upd_ne (ne_of_none e1 h)]; exact e1
    · have hn' : n = al.length := by
        have := (List.getElem?_eq_some_iff.1 h1).1
        simp at this; omega
      subst hn'
      rw [List.getElem?_append_right (Nat.le_refl _)] at h1
      rw [List.getElem?_append_right (by rw [r.len]; exact Nat.le_refl _), r.len] at h2
      simp at h1 h2
      subst h1; subst h2
      exact ⟨o, upd_same, hd.le s.le⟩
  · obtain ⟨v, h1, h2⟩ := r.slot i d e hu
    exact ⟨v, h1, Rep.le s.le h2⟩
  · refine ⟨p, rfl, ?_⟩
    show (al ++ [p])[M.length]? = some p
    rw [← r.len]; simp
/-- a cell is changed -/
theorem stp_set (r : Cells C al M H) {a : Addr} {o : HO} (h : a ∈ al) : Stp al H al (upd H a o) := by
  obtain ⟨u, e, n1, n2⟩ := r.some h
  refine ⟨⟨[], by simp, fun _ h => nomatch h⟩, fun b w hb eb => ?_, fun b xs hb => ?_, fun b hb => ?_⟩
  · rw [upd_ne (fun z : b = a => hb (z ▸ h))]; exact eb
  · rcases hb with hb | ⟨ob, hb⟩
    · refine .inl ?_
      rw [upd_ne (ne_of hb e (fun z => n1 _ z.symm))]; exact hb
    · refine .inr ⟨ob, ?_⟩
      rw [upd_ne (ne_of hb e (fun z => n2 _ _ z.symm))]; exact hb
  · unfold upd
    split
    · exact fun z => nomatch z
    · exact hb
theorem nodup_get : ∀ {al : List Addr}, al.Nodup → ∀ {i j : Nat} {a : Addr}, al[i]? = some a → al[j]? = some a → i = j
  | [], _, _, _, _, h, _ => by simp at h
  | b :: r, nd, 0, 0, _, _, _ => rfl
  | b :: r, nd, 0, j + 1, a, h1, h2 => by
    simp at h1 h2; subst h1
    exact absurd (List.mem_of_getElem? h2) (List.nodup_cons.1 nd).1
  | b :: r, nd, i + 1, 0, a, h1, h2 => by
    simp at h1 h2; subst h2
    exact absurd (List.mem_of_getElem? h1) (List.nodup_cons.1 nd).1
  | b :: r, nd, i + 1, j + 1, a, h1, h2 => by
    simp at h1 h2
    rw [nodup_get (List.nodup_cons.1 nd).2 h1 h2]
theorem Rel.cell_set (r : Rel C al ρ M σ H) {n : Nat} {a : Addr} {d : Cel} {o : HO} (hn : al[n]? = some a) (hd : CellO (C.cr al H) d o) : Rel C al ρ (M.set n d) σ (upd H a o) := by
  have s := stp_set (o := o) r.toCells (List.mem_of_getElem? hn)
  refine ⟨⟨by simp [r.len], r.nd, fun m b e h1 h2 => ?_, fun b e => r.dom b (s.back e)⟩, r.sl, fun i d e hu => ?_⟩
  · by_cases hm : m = n
    · subst hm
      rw [hn] at h1; cases h1
      have hl : m < M.length := by rw [← r.len]; exact (List.getElem?_eq_some_iff.1 hn).1
      rw [List.getElem?_set_self hl] at h2
      cases h2
      exact ⟨o, upd_same, hd.le s.le⟩
    · rw [List.getElem?_set_ne (fun z => hm z.symm)] at h2
      obtain ⟨o', e1, e2⟩ := r.cell m b e h1 h2
      refine ⟨o', ?_, e2.le s.le⟩
      show upd H a o b = some o'
      rw [upd_ne (fun z : b = a => hm (nodup_get r.nd h1 (z ▸ hn)))]; exact e1
  · obtain ⟨v, h1, h2⟩ := r.slot i d e hu
    exact ⟨v, h1, Rep.le s.le h2⟩
def asL (M : Mem) : D → Option (List D)
  | .t (.lst ds) => some (ds.map .t)
  | .loc n => match M[n]? with | some (.lst ds) => some ds | _ => none
  | _ => none
def asK (M : Mem) : D → Option (List (Key × D))
  | .t (.dct ds) => some (ds.map fun kv => (kv.1, .t kv.2))
  | .loc n => match M[n]? with | some (.dct ds) => some ds | _ => none
  | _ => none
def asI (M : Mem) : D → Option (Nat × List (Str × D))
  | .t (.ins k fs) => some (k, fs.map fun kv => (kv.1, .t kv.2))
  | .loc n => match M[n]? with | some (.ins k fs) => some (k, fs) | _ => none
  | _ => none
theorem asL_rep (r : Cells C al M H) {d : D} {v : V} {ds : List D} (h : Rep (C.cr al H) d v) (e : asL M d = some ds) : ∃ a xs, v = .ref a ∧ H a = some (.lst xs) ∧ RepL (C.cr al H) ds xs := by
  unfold asL at e
  split at e
  · cases e
    simp only [Rep, RepT] at h
    obtain ⟨a, xs, e, h1, _, h3⟩ := h
    exact ⟨a, xs, e, h1, RepL.ofT h3⟩
  · rename_i n
    obtain ⟨a, ev, ha⟩ := h
    split at e
    · cases e
      rename_i hm
      obtain ⟨o, e1, xs, rfl, h3⟩ := r.cell n a _ ha hm
      exact ⟨a, xs, ev, e1, h3⟩
    · cases e
  · cases e
theorem asK_rep (r : Cells C al M H) {d : D} {v : V} {ds : List (Key × D)} (h : Rep (C.cr al H) d v) (e : asK M d = some ds) : ∃ a xs, v = .ref a ∧ Rd H a (.dK xs) ∧ RepK (C.cr al H) ds xs := by
  unfold asK at e
  split at e
  · cases e
    simp only [Rep, RepT] at h
    obtain ⟨a, xs, e, h1, _, h3⟩ := h
    exact ⟨a, xs, e, h1, RepK.ofT h3⟩
  · rename_i n
    obtain ⟨a, ev, ha⟩ := h
    split at e
    · cases e
      rename_i hm
      obtain ⟨o, e1, xs, rfl, h3⟩ := r.cell n a _ ha hm
      exact ⟨a, xs, ev, .inl e1, h3⟩
    · cases e
  · cases e
theorem asI_rep (r : Cells C al M H) {d : D} {v : V} {k : Nat} {ds : List (Str × D)} (h : Rep (C.cr al H) d v) (e : asI M d = some (k, ds)) : ∃ a dx xs, v = .ref a ∧ H a = some (.ins (C.cls k) dx xs) ∧ RepF (C.cr al H) ds xs := by
  unfold asI at e
  split at e
  · cases e
    simp only [Rep, RepT] at h
    obtain ⟨a, dx, xs, e, h1, _, h3⟩ := h
    exact ⟨a, dx, xs, e, h1, RepF.ofT h3⟩
  · rename_i n
    obtain ⟨a, ev, ha⟩ := h
    split at e
    · cases e
      rename_i hm
      obtain ⟨o, e1, dx, xs, rfl, h3⟩ := r.cell n a _ ha hm
      exact ⟨a, dx, xs, ev, e1, h3⟩
    · cases e
  · cases e
def D.below (n : Nat) : D → Bool
  | .loc m => decide (m < n)
  | _ => true
def Cel.below (n : Nat) : Cel → Bool
  | .lst ds => ds.all (·.below n)
  | .dct kvs => kvs.all fun kv => kv.2.below n
  | .ins _ fs => fs.all fun kv => kv.2.below n
def popC (n : Nat) (M : Mem) : Option (Mem × Cel) := match M[n]? with
  | some c => if M.length = n + 1 ∧ (M.take n).all (·.below n) = true then some (M.take n, c) else none
  | none => none
theorem Stp.drop {al be : List Addr} {H H' : Hp} (s : Stp al H (al ++ be) H') : Stp al H al H' := ⟨⟨[], by simp, fun _ h => nomatch h⟩, s.keep, s.tup, s.dom⟩
theorem le_drop {be : List Addr} : LeT (C.cr (al ++ be) H) (C.cr al H) := by
  have ok : ∀ a, (C.cr (al ++ be) H).ok a → (C.cr al H).ok a := fun a h => ⟨fun hm => h.1 (List.mem_append_left _ hm), h.2⟩
  exact ⟨rfl, rfl, fun a _ e o => ⟨e, ok a o⟩, fun a _ e o => ⟨e, ok a o⟩, fun a _ _ _ e o => ⟨e, ok a o⟩, fun a _ e => e, fun a _ e o => ⟨e, ok a o⟩⟩
theorem Rep.drop {be : List Addr} {d : D} {v : V} (h : Rep (C.cr (al ++ be) H) d v) (hb : d.below al.length = true) : Rep (C.cr al H) d v := by
  cases d with
  | und => exact h
  | t x => exact RepT.le le_drop h
  | loc n =>
    obtain ⟨a, e, h1⟩ := h
    refine ⟨a, e, ?_⟩
    have hn : n < al.length := of_decide_eq_true hb
    have h2 : (al ++ be)[n]? = some a := h1
    rw [List.getElem?_append_left hn] at h2
    exact h2
theorem RepL.drop' {be : List Addr} : ∀ {ds : List D} {xs : List V}, RepL (C.cr (al ++ be) H) ds xs → ds.all (·.below al.length) = true → RepL (C.cr al H) ds xs
  | [], _, h, _ => h
  | _ :: _, _, ⟨x, r, e, h1, h2⟩, hb => by
    rw [List.all_cons, Bool.and_eq_true] at hb
    exact ⟨x, r, e, h1.drop hb.1, RepL.drop' h2 hb.2⟩
theorem RepK.drop' {be : List Addr} : ∀ {ds : List (Key × D)} {xs : List (Key × V)}, RepK (C.cr (al ++ be) H) ds xs → ds.all (fun kv => kv.2.below al.length) = true → RepK (C.cr al H) ds xs
  | [], _, h, _ => h
  | _ :: _, _, ⟨x, r, e, h1, h2⟩, hb => by
    rw [List.all_cons, Bool.and_eq_true] at hb
    exact ⟨x, r, e, h1.drop hb.1, RepK.drop' h2 hb.2⟩
theorem RepF.drop' {be : List Addr} : ∀ {ds : List (Str × D)} {xs : List (Str × V)}, RepF (C.cr (al ++ be) H) ds xs → ds.all (fun kv => kv.2.below al.length) = true → RepF (C.cr al H) ds xs
  | [], _, h, _ => h
  | _ :: _, _, ⟨x, r, e, h1, h2⟩, hb => by
    rw [List.all_cons, Bool.and_eq_true] at hb
    exact ⟨x, r, e, h1.drop hb.1, RepF.drop' h2 hb.2⟩
theorem CellO.drop {be : List Addr} {d : Cel} {o : HO} (h : CellO (C.cr (al ++ be) H) d o) (hb : d.below al.length = true) : CellO (C.cr al H) d o := by
  cases d with
  | lst ds => obtain ⟨xs, e, h⟩ := h; exact ⟨xs, e, RepL.drop' h hb⟩
  | dct ds => obtain ⟨xs, e, h⟩ := h; exact ⟨xs, e, RepK.drop' h hb⟩
  | ins k fs => obtain ⟨dx, xs, e, h⟩ := h; exact ⟨dx, xs, e, RepF.drop' h hb⟩
/-- the cells behind al are forgotten -/
theorem Cells.drop {be : List Addr} (r : Cells C (al ++ be) M H) (hb : (M.take al.length).all (·.below al.length) = true) : Cells C al (M.take al.length) H := by
  have hl : al.length ≤ M.length := by rw [← r.len, List.length_append]; exact Nat.le_add_right _ _
  refine ⟨by rw [List.length_take]; omega, (List.nodup_append.1 r.nd).1, fun n a d h1 h2 => ?_, r.dom⟩
  have hn : n < al.length := (List.getElem?_eq_some_iff.1 h1).1
  rw [List.getElem?_take_of_lt hn] at h2
  obtain ⟨o, e1, e2⟩ := r.cell n a d (by rw [List.getElem?_append_left hn]; exact h1) h2
  exact ⟨o, e1, e2.drop (List.all_eq_true.1 hb d (List.mem_of_getElem? (i := n) (by rw [List.getElem?_take_of_lt hn]; exact h2)))⟩
theorem Rel.drop {be : List Addr} {M' : Mem} {H' : Hp} (r : Rel C al ρ M σ H) (s : Stp al H (al ++ be) H') (c : Cells C (al ++ be) M' H') (hb : (M'.take al.length).all (·.below al.length) = true) : Rel C al ρ (M'.take al.length) σ H' :=
  { c.drop hb with
    sl := r.sl
    slot := fun i d h hu => by
      obtain ⟨v, h1, h2⟩ := r.slot i d h hu
      exact ⟨v, h1, Rep.le s.drop.le h2⟩ }
end
section
variable {c : Cr}
theorem RepL.len : ∀ {ds : List D} {xs : List V}, RepL c ds xs → xs.length = ds.length
  | [], _, h => by simp only [RepL] at h; rw [h]; rfl
  | d :: ds, _, h => by
    simp only [RepL] at h
    obtain ⟨x, r, rfl, _, h2⟩ := h
    simp [RepL.len h2]
theorem RepL.get : ∀ {ds : List D} {xs : List V} {i : Nat} {d : D}, RepL c ds xs → ds[i]? = some d → ∃ x, xs[i]? = some x ∧ Rep c d x
  | [], _, _, _, _, e => by simp at e
  | d :: ds, _, 0, _, h, e => by
    simp only [RepL] at h
    obtain ⟨x, r, rfl, h1, _⟩ := h
    simp at e; subst e
    exact ⟨x, rfl, h1⟩
  | d :: ds, _, i + 1, _, h, e => by
    simp only [RepL] at h
    obtain ⟨x, r, rfl, _, h2⟩ := h
    simp at e
    obtain ⟨y, e1, e2⟩ := RepL.get h2 e
    exact ⟨y, by simpa using e1, e2⟩
theorem RepL.got : ∀ {ds : List D} {xs : List V} {i : Nat} {x : V}, RepL c ds xs → xs[i]? = some x → ∃ d, ds[i]? = some d ∧ Rep c d x
  | [], _, _, _, h, e => by simp only [RepL] at h; subst h; simp at e
  | d :: ds, _, 0, _, h, e => by
    simp only [RepL] at h
    obtain ⟨x, r, rfl, h1, _⟩ := h
    simp at e; subst e
    exact ⟨d, rfl, h1⟩
  | d :: ds, _, i + 1, _, h, e => by
    simp only [RepL] at h
    obtain ⟨x, r, rfl, _, h2⟩ := h
    simp at e
    obtain ⟨y, e1, e2⟩ := RepL.got h2 e
    exact ⟨y, by simpa using e1, e2⟩
theorem RepL.append : ∀ {ds es : List D} {xs ys : List V}, RepL c ds xs → RepL c es ys → RepL c (ds ++ es) (xs ++ ys)
  | [], _, _, _, h, k => by simp only [RepL] at h; subst h; exact k
  | d :: ds, es, _, ys, h, k => by
    simp only [RepL] at h
    obtain ⟨x, r, rfl, h1, h2⟩ := h
    show RepL c (d :: (ds ++ es)) (x :: (r ++ ys))
    simp only [RepL]
    exact ⟨x, r ++ ys, rfl, h1, RepL.append h2 k⟩
theorem RepL.one {d : D} {x : V} (h : Rep c d x) : RepL c [d] [x] := by simp only [RepL]; exact ⟨x, [], rfl, h, rfl⟩
theorem RepL.nil : RepL c [] [] := by simp only [RepL]
theorem RepL.cons {d : D} {x : V} {ds : List D} {xs : List V} (h : Rep c d x) (t : RepL c ds xs) : RepL c (d :: ds) (x :: xs) := by simp only [RepL]; exact ⟨x, xs, rfl, h, t⟩
theorem RepL.drop : ∀ {ds : List D} {xs : List V} (n : Nat), RepL c ds xs → RepL c (ds.drop n) (xs.drop n)
  | _, _, 0, h => h
  | [], _, n + 1, h => by simp only [RepL] at h; subst h; exact RepL.nil
  | d :: ds, _, n + 1, h => by
    simp only [RepL] at h
    obtain ⟨x, r, rfl, _, h2⟩ := h
    exact RepL.drop n h2
theorem RepL.take : ∀ {ds : List D} {xs : List V} (n : Nat), RepL c ds xs → RepL c (ds.take n) (xs.take n)
  | _, _, 0, h => by simp only [List.take_zero]; exact RepL.nil
  | [], _, n + 1, h => by simp only [RepL] at h; subst h; exact RepL.nil
  | d :: ds, _, n + 1, h => by
    simp only [RepL] at h
    obtain ⟨x, r, rfl, h1, h2⟩ := h
    exact RepL.cons h1 (RepL.take n h2)
theorem RepL.set : ∀ {ds : List D} {xs : List V} (n : Nat) {d : D} {x : V}, RepL c ds xs → Rep c d x → RepL c (ds.set n d) (xs.set n x)
  | [], _, _, _, _, h, _ => by simp only [RepL] at h; subst h; exact RepL.nil
  | d :: ds, _, 0, _, _, h, k => by
    simp only [RepL] at h
    obtain ⟨x, r, rfl, h1, h2⟩ := h
    exact RepL.cons k h2
  | d :: ds, _, n + 1, _, _, h, k => by
    simp only [RepL] at h
    obtain ⟨x, r, rfl, h1, h2⟩ := h
    exact RepL.cons h1 (RepL.set n h2 k)
theorem RepL.erase : ∀ {ds : List D} {xs : List V} (n : Nat), RepL c ds xs → RepL c (ds.eraseIdx n) (xs.eraseIdx n)
  | [], _, _, h => by simp only [RepL] at h; subst h; exact RepL.nil
  | d :: ds, _, 0, h => by
    simp only [RepL] at h
    obtain ⟨x, r, rfl, h1, h2⟩ := h
    exact h2
  | d :: ds, _, n + 1, h => by
    simp only [RepL] at h
    obtain ⟨x, r, rfl, h1, h2⟩ := h
    exact RepL.cons h1 (RepL.erase n h2)
theorem RepL.rev : ∀ {ds : List D} {xs : List V}, RepL c ds xs → RepL c ds.reverse xs.reverse
  | [], _, h => by simp only [RepL] at h; subst h; exact RepL.nil
  | d :: ds, _, h => by
    simp only [RepL] at h
    obtain ⟨x, r, rfl, h1, h2⟩ := h
    rw [List.reverse_cons, List.reverse_cons]
    exact RepL.append (RepL.rev h2) (RepL.one h1)
theorem RepK.len : ∀ {ds : List (Key × D)} {xs : List (Key × V)}, RepK c ds xs → xs.length = ds.length
  | [], _, h => by simp only [RepK] at h; rw [h]; rfl
  | (k, d) :: ds, _, h => by
    simp only [RepK] at h
    obtain ⟨x, r, rfl, _, h2⟩ := h
    simp [RepK.len h2]
theorem RepK.keys : ∀ {ds : List (Key × D)} {xs : List (Key × V)}, RepK c ds xs → xs.map (·.1) = ds.map (·.1)
  | [], _, h => by simp only [RepK] at h; rw [h]; rfl
  | (k, d) :: ds, _, h => by
    simp only [RepK] at h
    obtain ⟨x, r, rfl, _, h2⟩ := h
    simp [RepK.keys h2]
theorem RepK.nil : RepK c [] [] := by simp only [RepK]
theorem RepK.cons {k : Key} {d : D} {x : V} {ds : List (Key × D)} {xs : List (Key × V)} (h : Rep c d x) (t : RepK c ds xs) : RepK c ((k, d) :: ds) ((k, x) :: xs) := by simp only [RepK]; exact ⟨x, xs, rfl, h, t⟩
/-- what a dict holds, what a store makes -/
def getK {A : Type} (kvs : List (Key × A)) (k : Key) : Option A := (kvs.find? fun kv => decide (kv.1 = k)).map (·.2)
def setK {A : Type} (kvs : List (Key × A)) (k : Key) (d : A) : List (Key × A) :=
  if (kvs.any fun kv => decide (kv.1 = k)) = true then kvs.map (fun kv => if kv.1 = k then (kv.1, d) else kv) else kvs ++ [(k, d)]
theorem RepK.get : ∀ {ds : List (Key × D)} {xs : List (Key × V)} (k : Key), RepK c ds xs → (match getK ds k with | some d => ∃ x, valV xs k = some x ∧ Rep c d x | none => valV xs k = none)
  | [], _, k, h => by simp only [RepK] at h; subst h; rfl
  | (j, d) :: ds, _, k, h => by
    simp only [RepK] at h
    obtain ⟨x, r, rfl, h1, h2⟩ := h
    by_cases e : j = k
    · have e1 : getK ((j, d) :: ds) k = some d := by unfold getK; rw [List.find?_cons_of_pos (by simp [e])]; rfl
      rw [e1]
      exact ⟨x, valV_pos e, h1⟩
    · have e1 : getK ((j, d) :: ds) k = getK ds k := by unfold getK; rw [List.find?_cons_of_neg (by simp [e])]
      rw [e1, valV_neg e]
      exact RepK.get k h2
theorem RepK.any : ∀ {ds : List (Key × D)} {xs : List (Key × V)} (k : Key), RepK c ds xs → (xs.any fun kv => decide (kv.1 = k)) = ds.any fun kv => decide (kv.1 = k)
  | [], _, k, h => by simp only [RepK] at h; subst h; rfl
  | (j, d) :: ds, _, k, h => by
    simp only [RepK] at h
    obtain ⟨x, r, rfl, h1, h2⟩ := h
    rw [List.any_cons, List.any_cons, RepK.any k h2]
theorem RepK.mapk : ∀ {ds : List (Key × D)} {xs : List (Key × V)} (k : Key) {d : D} {x : V}, RepK c ds xs → Rep c d x → RepK c (ds.map fun kv => if kv.1 = k then (kv.1, d) else kv) (xs.map fun kv => if kv.1 = k then (kv.1, x) else kv)
  | [], _, k, _, _, h, _ => by simp only [RepK] at h; subst h; exact RepK.nil
  | (j, d) :: ds, _, k, _, _, h, hd => by
    simp only [RepK] at h
    obtain ⟨x, r, rfl, h1, h2⟩ := h
    rw [List.map_cons, List.map_cons]
    by_cases e : j = k
    · rw [if_pos e, if_pos e]; exact RepK.cons hd (RepK.mapk k h2 hd)
    · rw [if_neg e, if_neg e]; exact RepK.cons h1 (RepK.mapk k h2 hd)
theorem RepK.append : ∀ {ds es : List (Key × D)} {xs ys : List (Key × V)}, RepK c ds xs → RepK c es ys → RepK c (ds ++ es) (xs ++ ys)
  | [], _, _, _, h, k => by simp only [RepK] at h; subst h; exact k
  | (j, d) :: ds, es, _, ys, h, k => by
    simp only [RepK] at h
    obtain ⟨x, r, rfl, h1, h2⟩ := h
    exact RepK.cons h1 (RepK.append h2 k)
theorem RepK.put {ds : List (Key × D)} {xs : List (Key × V)} (k : Key) {d : D} {x : V} (h : RepK c ds xs) (hd : Rep c d x) : RepK c (setK ds k d) (putK xs k x) := by
  unfold setK putK
  rw [RepK.any k h]
  split
  · exact RepK.mapk k h hd
  · exact RepK.append h (RepK.cons hd RepK.nil)
theorem RepF.look : ∀ {ds : List (Str × D)} {xs : List (Str × V)} (f : Str), RepF c ds xs → (match ds.lookup f with | some d => ∃ x, xs.lookup f = some x ∧ Rep c d x | none => xs.lookup f = none)
  | [], _, f, h => by simp only [RepF] at h; subst h; rfl
  | (j, d) :: ds, _, f, h => by
    simp only [RepF] at h
    obtain ⟨x, r, rfl, h1, h2⟩ := h
    rw [List.lookup_cons, List.lookup_cons]
    cases e : (f == j) with
    | true => exact ⟨x, rfl, h1⟩
    | false => exact RepF.look f h2
end
end LL
namespace LL
open PySem L2
section
variable {X : Cx} {C : Fc}
def rIxD : R2 := fun x y H Q => ∃ a v, x = .ref a ∧ DGet H a y (some v) ∧ Q v H
theorem ix_dict (hu : X.A.units + 1 < cLine) : IxR X rIxD := by
  intro value slice pins s σ H x y v u Q I rx ry h hs
  obtain ⟨a, v', rfl, g, q⟩ := h
  cases rx
  exact PyProof.Rows.tail_any (dict_typeIs I g) PySem.F.slot_dict_getitem.lookup (d_getItem hu I g ry fun w' s3 I3 rw' => ⟨v', H, I3, rw', q⟩) hs
def rInD (neg : Bool) : R2 := fun y x H Q => ∃ a o, x = .ref a ∧ DGet H a y o ∧ Q (.bl (if neg then !o.isSome else o.isSome)) H
theorem op_in_dict (hu : X.A.units + 1 < cLine) : OpR X (compareOp .In) (rInD false) := by
  intro pins s σ H x y v u Q I rx ry h
  obtain ⟨a, o, rfl, g, q⟩ := h
  cases ry
  exact d_in hu I g rx fun s3 I3 => ⟨.bl o.isSome, H, I3, rfl, q⟩
theorem op_notIn_dict (hu : X.A.units + 1 < cLine) : OpR X (compareOp .NotIn) (rInD true) := by
  intro pins s σ H x y v u Q I rx ry h
  obtain ⟨a, o, rfl, g, q⟩ := h
  cases ry
  exact d_notIn hu I g rx fun s3 I3 => ⟨.bl (!o.isSome), H, I3, rfl, q⟩
end
section
variable {C : Fc} {al : List Addr} {ρ : List D} {M : Mem} {σ : L2.St} {H : Hp} {Q : VK}
theorem out_t {x : T} {v : V} (hv : RepT (C.cr al H) x v) (r : Rel C al ρ M σ H) (h : Out C al H (R.ok (D.t x) M) (KE C ρ σ Q)) : Q v H := Out.here h r v hv
theorem out_int {i : Int} (r : Rel C al ρ M σ H) (h : Out C al H (R.ok (D.t (.int i)) M) (KE C ρ σ Q)) : Q (.int i) H := out_t (by simp only [RepT]) r h
theorem out_bl {b : Bool} (r : Rel C al ρ M σ H) (h : Out C al H (R.ok (D.t (.bl b)) M) (KE C ρ σ Q)) : Q (.bl b) H := out_t (by simp only [RepT]) r h
theorem out_str {b : Str} (r : Rel C al ρ M σ H) (h : Out C al H (R.ok (D.t (.str b)) M) (KE C ρ σ Q)) : Q (.str b) H := out_t (by simp only [RepT]) r h
theorem out_non (r : Rel C al ρ M σ H) (h : Out C al H (R.ok (D.t .non) M) (KE C ρ σ Q)) : Q .non H := out_t (by simp only [RepT]) r h
theorem out_newL {ds : List T} {xs : List V} {p : Addr} (r : Rel C al ρ M σ H) (h : Out C al H (R.ok (D.t (.lst ds)) M) (KE C ρ σ Q)) (hx : RepTs (C.cr al H) ds xs) (hp : H p = none) : Q (.ref p) (upd H p (.lst xs)) :=
  h al _ (stp_new r.toCells hp) (r.new hp) _ (r.newL hp hx)
theorem out_newT {ds : List T} {xs : List V} {p : Addr} (r : Rel C al ρ M σ H) (h : Out C al H (R.ok (D.t (.tup ds)) M) (KE C ρ σ Q)) (hx : RepTs (C.cr al H) ds xs) (hp : H p = none) : Q (.ref p) (upd H p (.tup xs)) :=
  h al _ (stp_new r.toCells hp) (r.new hp) _ (r.newT hp hx)
theorem out_newK {ds : List (Key × T)} {xs : List (Key × V)} {p : Addr} (r : Rel C al ρ M σ H) (h : Out C al H (R.ok (D.t (.dct ds)) M) (KE C ρ σ Q)) (hx : RepTk (C.cr al H) ds xs) (hp : H p = none) : Q (.ref p) (upd H p (.dK xs)) :=
  h al _ (stp_new r.toCells hp) (r.new hp) _ (r.newK hp hx)
/-- a list as a new cell -/
theorem out_cellL {ds : List D} {xs : List V} {p : Addr} (r : Rel C al ρ M σ H) (h : Out C al H (R.ok (D.loc M.length) (M ++ [.lst ds])) (KE C ρ σ Q)) (hx : RepL (C.cr al H) ds xs) (hp : H p = none) : Q (.ref p) (upd H p (.lst xs)) := by
  obtain ⟨r1, r2⟩ := r.cell_new (d := .lst ds) (o := .lst xs) hp ⟨xs, rfl, hx⟩
  exact h _ _ (stp_cell r.toCells hp) r1 _ r2
theorem out_cellK {ds : List (Key × D)} {xs : List (Key × V)} {p : Addr} (r : Rel C al ρ M σ H) (h : Out C al H (R.ok (D.loc M.length) (M ++ [.dct ds])) (KE C ρ σ Q)) (hx : RepK (C.cr al H) ds xs) (hp : H p = none) : Q (.ref p) (upd H p (.dK xs)) := by
  obtain ⟨r1, r2⟩ := r.cell_new (d := .dct ds) (o := .dK xs) hp ⟨xs, rfl, hx⟩
  exact h _ _ (stp_cell r.toCells hp) r1 _ r2
end
def mulOk (i j : Int) : Bool := decide ((-(2 ^ 64) < i ∧ i < 2 ^ 64) ∨ (-(2 ^ 64) < j ∧ j < 2 ^ 64)) || decide (i.natAbs.log2 + j.natAbs.log2 < 1000000)
def dAdd : F2 := fun d e M =>
  match d, e with
  | .t (.int i), .t (.int j) => .ok (.t (.int (i + j))) M
  | .t (.str x), .t (.str y) => if x.length + y.length ≤ sizeLine then .ok (.t (.str (x ++ y))) M else .bad
  | .t (.tup ds), .t (.tup es) => if ds.length + es.length ≤ sizeLine then .ok (.t (.tup (ds ++ es))) M else .bad
  | d, e => match asL M d, asL M e with
    | some ds, some es => match asTs ds, asTs es with
      | some ds, some es => if ds.length + es.length ≤ sizeLine then .ok (.t (.lst (ds ++ es))) M else .bad
      | _, _ => .bad
    | _, _ => .bad
def dSub : F2 := fun d e M => match d, e with | .t (.int i), .t (.int j) => .ok (.t (.int (i - j))) M | _, _ => .bad
def dMul : F2 := fun d e M =>
  match d, e with
  | .t (.int i), .t (.int j) => if mulOk i j = true then .ok (.t (.int (i * j))) M else .bad
  | d, .t (.int k) => match asL M d with
    | some ds => match asTs ds with
      | some ds => if -(2 ^ 63) ≤ k ∧ k < 2 ^ 63 ∧ ds.length * k.toNat ≤ sizeLine then .ok (.t (.lst (List.replicate k.toNat ds).flatten)) M else .bad
      | none => .bad
    | none => .bad
  | _, _ => .bad
def dDiv : F2 := fun d e M => match d, e with | .t (.int i), .t (.int j) => if 0 < j ∧ j.natAbs.log2 < 9000 then .ok (.t (.int (i / j))) M else .bad | _, _ => .bad
def dMod : F2 := fun d e M => match d, e with | .t (.int i), .t (.int j) => if 0 < j then .ok (.t (.int (i % j))) M else .bad | _, _ => .bad
def dPow : F2 := fun d e M => match d, e with | .t (.int i), .t (.int j) => if 0 ≤ j ∧ j ≤ 1000000 ∧ i.natAbs < 2 ^ 64 then .ok (.t (.int (i ^ j.toNat))) M else .bad | _, _ => .bad
section
variable {C : Fc} {X : Cx}
theorem rep_int {c : Cr} {i : Int} {v : V} (h : Rep c (.t (.int i)) v) : v = .int i := by simpa only [Rep, RepT] using h
theorem rep_str {c : Cr} {i : Str} {v : V} (h : Rep c (.t (.str i)) v) : v = .str i := by simpa only [Rep, RepT] using h
theorem rep_bl {c : Cr} {i : Bool} {v : V} (h : Rep c (.t (.bl i)) v) : v = .bl i := by simpa only [Rep, RepT] using h
theorem rep_tup {c : Cr} {ds : List T} {v : V} (h : Rep c (.t (.tup ds)) v) : ∃ a xs, v = .ref a ∧ SqT c.K c.H a xs ∧ RepTs c ds xs := by simpa only [Rep, RepT] using h
theorem RepTs.len {c : Cr} {ds : List T} {xs : List V} (h : RepTs c ds xs) : xs.length = ds.length := by rw [(RepL.ofT h).len, List.length_map]
theorem RepTs.append {c : Cr} {ds es : List T} {xs ys : List V} (h : RepTs c ds xs) (k : RepTs c es ys) : RepTs c (ds ++ es) (xs ++ ys) := RepL.toT (by rw [List.map_append]; exact (RepL.ofT h).append (RepL.ofT k))
theorem RepL.asT {c : Cr} {ds : List D} {ts : List T} {xs : List V} (h : RepL c ds xs) (e : asTs ds = some ts) : RepTs c ts xs := by rw [asTs_eq e] at h; exact RepL.toT h
theorem repTs_ne {c : Cr} {ds : List T} {xs : List V} (h : RepTs c ds xs) (hn : ds ≠ []) : xs ≠ [] := by
  rintro rfl
  exact hn (List.length_eq_zero_iff.1 (h.len.symm.trans rfl))
def rAddA (K : PySem.W.Frag) : R2 := fun x y H Q => (∃ i j, x = .int i ∧ y = .int j ∧ Q (.int (i + j)) H) ∨ (∃ i j, x = .str i ∧ y = .str j ∧ i.length + j.length ≤ sizeLine ∧ Q (.str (i ++ j)) H) ∨ rCatA K x y H Q ∨ rCat x y H Q
theorem op_addA : OpR X (binaryOp .Add) (rAddA X.K) := op_add.or (op_add_str.or (op_catA.or op_cat))
theorem os_add : OpS C (rAddA C.K) dAdd := by
  intro al ρ M σ H d e x y Q r hx hy h
  unfold dAdd at h
  split at h
  · exact .inl ⟨_, _, rep_int hx, rep_int hy, out_int r h⟩
  · split at h
    · rename_i hz
      exact .inr (.inl ⟨_, _, rep_str hx, rep_str hy, hz, out_str r h⟩)
    · exact h.elim
  · split at h
    · rename_i hz
      obtain ⟨a, xs, rfl, h1, h2⟩ := rep_tup hx
      obtain ⟨b, ys, rfl, h3, h4⟩ := rep_tup hy
      refine .inr (.inr (.inl ⟨a, b, xs, ys, rfl, rfl, h1, h3, by rw [h2.len, h4.len]; exact hz, fun e => ?_, fun _ e => ?_, fun _ _ p hp => out_newT r h (h2.append h4) hp⟩))
      · have e2 : xs.length = 0 := by rw [e]; rfl
        have e3 := List.length_eq_zero_iff.1 (h2.len.symm.trans e2)
        subst e3
        exact Out.here h r _ hy
      · have e2 : ys.length = 0 := by rw [e]; rfl
        have e3 := List.length_eq_zero_iff.1 (h4.len.symm.trans e2)
        subst e3
        rw [List.append_nil] at h
        exact Out.here h r _ hx
    · exact h.elim
  · split at h
    · rename_i e1 e2
      split at h
      · rename_i t1 t2
        split at h
        · rename_i hz
          obtain ⟨a, xs, rfl, h1, h2⟩ := asL_rep r.toCells hx e1
          obtain ⟨b, ys, rfl, h3, h4⟩ := asL_rep r.toCells hy e2
          have g2 := h2.asT t1
          have g4 := h4.asT t2
          refine .inr (.inr (.inr ⟨a, b, xs, ys, rfl, rfl, h1, h3, by rw [g2.len, g4.len]; exact hz, fun p hp => ?_⟩))
          exact out_newL r h (g2.append g4) hp
        · exact h.elim
      · exact h.elim
    · exact h.elim
theorem os_sub : OpS C (rI0 fun i j => .int (i - j)) dSub := by
  intro al ρ M σ H d e x y Q r hx hy h
  unfold dSub at h
  split at h
  · exact ⟨_, _, rep_int hx, rep_int hy, out_int r h⟩
  · exact h.elim
def rMulA : R2 := fun x y H Q => rI CMul (fun i j => .int (i * j)) x y H Q ∨ rI CMulW (fun i j => .int (i * j)) x y H Q ∨ rRep x y H Q
theorem op_mulA : OpR X (binaryOp .Mult) rMulA := op_mul.or (op_mulW.or op_rep)
theorem repL_flat {c : Cr} {ds : List T} {xs : List V} (h : RepTs c ds xs) : ∀ n : Nat, RepTs c (List.replicate n ds).flatten (List.replicate n xs).flatten
  | 0 => by simp only [List.replicate_zero, List.flatten_nil, RepTs]
  | n + 1 => by
    rw [List.replicate_succ, List.replicate_succ, List.flatten_cons, List.flatten_cons]
    exact h.append (repL_flat h n)
theorem os_mul : OpS C rMulA dMul := by
  intro al ρ M σ H d e x y Q r hx hy h
  unfold dMul at h
  split at h
  · split at h
    · rename_i hz
      unfold mulOk at hz
      rcases Bool.or_eq_true _ _ ▸ hz with hz | hz
      · have hz := of_decide_eq_true hz
        exact .inl ⟨_, _, rep_int hx, rep_int hy, hz, out_int r h⟩
      · have hz := of_decide_eq_true hz
        exact .inr (.inl ⟨_, _, rep_int hx, rep_int hy, hz, out_int r h⟩)
    · exact h.elim
  · split at h
    · rename_i e1
      split at h
      · rename_i t1
        split at h
        · rename_i hz
          obtain ⟨a, xs, rfl, h1, h2⟩ := asL_rep r.toCells hx e1
          have g2 := h2.asT t1
          refine .inr (.inr ⟨a, _, xs, rfl, rep_int hy, h1, hz.1, hz.2.1, by rw [g2.len]; exact hz.2.2, fun p hp => ?_⟩)
          exact out_newL r h (repL_flat g2 _) hp
        · exact h.elim
      · exact h.elim
    · exact h.elim
  · exact h.elim
theorem os_div : OpS C (rI CDivW fun i j => .int (i / j)) dDiv := by
  intro al ρ M σ H d e x y Q r hx hy h
  unfold dDiv at h
  split at h
  · split at h
    · rename_i hz
      exact ⟨_, _, rep_int hx, rep_int hy, hz, out_int r h⟩
    · exact h.elim
  · exact h.elim
theorem os_mod : OpS C (rI (fun _ j => 0 < j) fun i j => .int (i % j)) dMod := by
  intro al ρ M σ H d e x y Q r hx hy h
  unfold dMod at h
  split at h
  · split at h
    · rename_i hz
      exact ⟨_, _, rep_int hx, rep_int hy, hz, out_int r h⟩
    · exact h.elim
  · exact h.elim
theorem os_pow : OpS C (rI CPow fun i j => .int (i ^ j.toNat)) dPow := by
  intro al ρ M σ H d e x y Q r hx hy h
  unfold dPow at h
  split at h
  · split at h
    · rename_i hz
      exact ⟨_, _, rep_int hx, rep_int hy, hz, out_int r h⟩
    · exact h.elim
  · exact h.elim
variable {a b : Expr} {f g : FE} {pos : Pos}
theorem pd_add (hK : X.K = C.K) (ha : PD C X a f) (hb : PD C X b g) : PD C X (.BinOp a .Add b pos) (eOp dAdd f g) := pd_op (r := rAddA X.K) (by rw [hK]; exact os_add) op_addA ha hb
theorem pd_sub (ha : PD C X a f) (hb : PD C X b g) : PD C X (.BinOp a .Sub b pos) (eOp dSub f g) := pd_op os_sub op_sub ha hb
theorem pd_mul (ha : PD C X a f) (hb : PD C X b g) : PD C X (.BinOp a .Mult b pos) (eOp dMul f g) := pd_op os_mul op_mulA ha hb
theorem pd_div (ha : PD C X a f) (hb : PD C X b g) : PD C X (.BinOp a .FloorDiv b pos) (eOp dDiv f g) := pd_op os_div op_fdivW ha hb
theorem pd_mod (ha : PD C X a f) (hb : PD C X b g) : PD C X (.BinOp a .Mod b pos) (eOp dMod f g) := pd_op os_mod op_mod ha hb
theorem pd_pow (ha : PD C X a f) (hb : PD C X b g) : PD C X (.BinOp a .Pow b pos) (eOp dPow f g) := pd_op os_pow op_pow ha hb
/-- -a -/
def eNeg (f : FE) : FE := fun ρ M => (f ρ M).bind fun d M1 => match d with | .t (.int i) => .ok (.t (.int (-i))) M1 | _ => .bad
theorem pd_neg (ha : PD C X a f) : PD C X (.UnaryOp .USub a pos) (eNeg f) := by
  refine PE.wk (pe_un un_neg ha) ?_
  rintro σ H Q ⟨al, ρ, M, rl, h⟩
  refine ⟨al, ρ, M, rl, Out.mono (Out.bind h) fun d al1 M1 H1 s1 h1 r1 x hx => ?_⟩
  split at h1
  · exact ⟨_, rep_int hx, out_int r1 h1⟩
  · exact h1.elim
end
end LL
namespace LL
open PySem L2
def toV : T → Option V
  | .non => some .non
  | .bl b => some (.bl b)
  | .int i => some (.int i)
  | .str s => some (.str s)
  | _ => none
def toVs : List T → Option (List V)
  | [] => some []
  | d :: ds => match toV d, toVs ds with | some v, some vs => some (v :: vs) | _, _ => none
theorem toV_rep {c : Cr} {d : T} {v w : V} (e : toV d = some w) (h : RepT c d v) : v = w ∧ flatV w = true := by
  cases d <;> simp only [toV] at e <;> cases e <;> simp only [RepT] at h <;> exact ⟨h, rfl⟩
theorem toVs_rep {c : Cr} : ∀ {ds : List T} {vs ws : List V}, toVs ds = some ws → RepTs c ds vs → vs = ws ∧ ws.all flatV = true
  | [], _, _, e, h => by simp only [toVs] at e; cases e; simp only [RepTs] at h; exact ⟨h, rfl⟩
  | d :: ds, _, _, e, h => by
    simp only [toVs] at e
    split at e
    · cases e
      rename_i e1 e2
      simp only [RepTs] at h
      obtain ⟨x, r, rfl, h1, h2⟩ := h
      obtain ⟨rfl, f1⟩ := toV_rep e1 h1
      obtain ⟨rfl, f2⟩ := toVs_rep e2 h2
      exact ⟨rfl, by rw [List.all_cons, f1, f2]; rfl⟩
    · cases e
/-- the key that a value is -/
def toKey : D → Option Key
  | .t (.int i) => some (.inl i)
  | .t (.str s) => some (.inr s)
  | _ => none
theorem toKey_rep {c : Cr} {d : D} {v : V} {k : Key} (e : toKey d = some k) (h : Rep c d v) : v = kV k := by
  unfold toKey at e
  split at e
  · cases e; exact rep_int h
  · cases e; exact rep_str h
  · cases e
def ofKey : Key → T
  | .inl i => .int i
  | .inr s => .str s
theorem rep_key {c : Cr} (k : Key) : RepT c (ofKey k) (kV k) := by cases k <;> simp only [ofKey, kV, RepT]
mutual
def toPy : T → Option PyData
  | .non => some .none
  | .bl b => some (.bool b)
  | .int i => some (.int i)
  | .str s => some (.str s)
  | .lst ds => (toPys ds).map .list
  | .tup ds => (toPys ds).map .tuple
  | _ => none
def toPys : List T → Option (List PyData)
  | [] => some []
  | d :: ds => match toPy d, toPys ds with | some p, some ps => some (p :: ps) | _, _ => none
end
mutual
theorem toPy_dp {c : Cr} : ∀ {d : T} {v : V} {p : PyData}, toPy d = some p → RepT c d v → Dp c.K c.H v p
  | .non, _, _, e, h => by simp only [toPy] at e; cases e; simp only [RepT] at h; subst h; exact .non
  | .bl _, _, _, e, h => by simp only [toPy] at e; cases e; simp only [RepT] at h; subst h; exact .bl _
  | .int _, _, _, e, h => by simp only [toPy] at e; cases e; simp only [RepT] at h; subst h; exact .int _
  | .str _, _, _, e, h => by simp only [toPy] at e; cases e; simp only [RepT] at h; subst h; exact .str _
  | .lst ds, _, _, e, h => by
    simp only [toPy, Option.map_eq_some_iff] at e
    obtain ⟨ps, e1, rfl⟩ := e
    simp only [RepT] at h
    obtain ⟨a, xs, rfl, h1, _, h3⟩ := h
    exact .lst (SqL.of h1) (toPys_dp e1 h3)
  | .tup ds, _, _, e, h => by
    simp only [toPy, Option.map_eq_some_iff] at e
    obtain ⟨ps, e1, rfl⟩ := e
    simp only [RepT] at h
    obtain ⟨a, xs, rfl, h1, h3⟩ := h
    exact .tup h1 (toPys_dp e1 h3)
  | .dct _, _, _, e, _ => by simp only [toPy] at e; cases e
  | .ins _ _, _, _, e, _ => by simp only [toPy] at e; cases e
  | .scr _, _, _, e, _ => by simp only [toPy] at e; cases e
theorem toPys_dp {c : Cr} : ∀ {ds : List T} {vs : List V} {ps : List PyData}, toPys ds = some ps → RepTs c ds vs → DpAll c.K c.H vs ps
  | [], _, _, e, h => by simp only [toPys] at e; cases e; simp only [RepTs] at h; subst h; exact .nil
  | d :: ds, _, _, e, h => by
    simp only [toPys] at e
    split at e
    · cases e
      rename_i e1 e2
      simp only [RepTs] at h
      obtain ⟨x, r, rfl, h1, h2⟩ := h
      exact .cons (toPy_dp e1 h1) (toPys_dp e2 h2)
    · cases e
end
/-- a value as plain data: a tree, or a cell with trees in it -/
def vwT (M : Mem) : D → Option T
  | .t x => some x
  | .loc n => match M[n]? with
    | some (.lst ds) => (asTs ds).map .lst
    | some (.dct ds) => (asTk ds).map .dct
    | some (.ins k ds) => (asTf ds).map (.ins k)
    | none => none
  | .und => none
theorem vw_dp {C : Fc} {al : List Addr} {M : Mem} {H : Hp} (r : Cells C al M H) {d : D} {v : V} {x : T} {p : PyData} (e0 : vwT M d = some x) (e : toPy x = some p) (h : Rep (C.cr al H) d v) : Dp C.K H v p := by
  cases d with
  | und => cases e0
  | t y => cases e0; exact toPy_dp (c := C.cr al H) e h
  | loc n =>
    simp only [vwT] at e0
    obtain ⟨a, rfl, ha⟩ := h
    split at e0
    · rename_i ds em
      simp only [Option.map_eq_some_iff] at e0
      obtain ⟨ts, e1, rfl⟩ := e0
      obtain ⟨o, e2, xs, rfl, h3⟩ := r.cell n a _ ha em
      simp only [toPy, Option.map_eq_some_iff] at e
      obtain ⟨ps, e3, rfl⟩ := e
      exact .lst (SqL.of e2) (toPys_dp (c := C.cr al H) e3 (h3.asT e1))
    · simp only [Option.map_eq_some_iff] at e0
      obtain ⟨ts, e1, rfl⟩ := e0
      simp only [toPy] at e; cases e
    · simp only [Option.map_eq_some_iff] at e0
      obtain ⟨ts, e1, rfl⟩ := e0
      simp only [toPy] at e; cases e
    · cases e0
def dEqB (M : Mem) (d e : D) : Option Bool :=
  match d, e with
  | .t (.int i), .t (.int j) => some (decide (i = j))
  | .t (.str x), .t (.str y) => some (decide (x = y))
  | .t (.bl x), .t (.bl y) => some (decide (x = y))
  | d, e => match vwT M d, vwT M e with
    | some x, some y => match toPy x, toPy y with
      | some p, some q => if SeqAt.shaped p = true ∧ SeqAt.shaped q = true then some (PyData.eqv p q) else none
      | _, _ => none
    | _, _ => none
def dEq : F2 := fun d e M => match dEqB M d e with | some b => .ok (.t (.bl b)) M | none => .bad
def dNe : F2 := fun d e M => match dEqB M d e with | some b => .ok (.t (.bl (!b))) M | none => .bad
section
variable {C : Fc} {X : Cx}
def rEqA (K : PySem.W.Frag) : R2 := fun x y H Q => rEq x y H Q ∨ rEqD K x y H Q
def rNeA (K : PySem.W.Frag) : R2 := fun x y H Q => rNe x y H Q ∨ rNeD K x y H Q
theorem eqB_ok {al : List Addr} {ρ : List D} {M : Mem} {σ : L2.St} {H : Hp} {d e : D} {x y : V} {b : Bool} (r : Rel C al ρ M σ H) (hx : Rep (C.cr al H) d x) (hy : Rep (C.cr al H) e y) (h : dEqB M d e = some b) :
    (scal x y = true ∧ decide (x = y) = b) ∨ ∃ p q, Dp C.K H x p ∧ Dp C.K H y q ∧ SeqAt.shaped p = true ∧ SeqAt.shaped q = true ∧ PyData.eqv p q = b := by
  unfold dEqB at h
  split at h
  · cases h
    rw [rep_int hx, rep_int hy]
    exact .inl ⟨rfl, by simp⟩
  · cases h
    rw [rep_str hx, rep_str hy]
    exact .inl ⟨rfl, by simp⟩
  · cases h
    rw [rep_bl hx, rep_bl hy]
    exact .inl ⟨rfl, by simp⟩
  · split at h
    · rename_i e1 e2
      split at h
      · rename_i p q t1 t2
        split at h
        · cases h
          rename_i hz
          exact .inr ⟨p, q, vw_dp r.toCells e1 t1 hx, vw_dp r.toCells e2 t2 hy, hz.1, hz.2, rfl⟩
        · cases h
      · cases h
    · cases h
theorem os_eq : OpS C (rEqA C.K) dEq := by
  intro al ρ M σ H d e x y Q r hx hy h
  unfold dEq at h
  split at h
  · rename_i b hb
    rcases eqB_ok r hx hy hb with ⟨h1, h2⟩ | ⟨p, q, h1, h2, h3, h4, h5⟩
    · exact .inl ⟨h1, by rw [h2]; exact out_bl r h⟩
    · exact .inr ⟨p, q, h1, h2, h3, h4, by rw [h5]; exact out_bl r h⟩
  · exact h.elim
theorem os_ne : OpS C (rNeA C.K) dNe := by
  intro al ρ M σ H d e x y Q r hx hy h
  unfold dNe at h
  split at h
  · rename_i b hb
    rcases eqB_ok r hx hy hb with ⟨h1, h2⟩ | ⟨p, q, h1, h2, h3, h4, h5⟩
    · exact .inl ⟨h1, by rw [h2]; exact out_bl r h⟩
    · exact .inr ⟨p, q, h1, h2, h3, h4, by rw [h5]; exact out_bl r h⟩
  · exact h.elim
theorem op_eqA (hu : X.A.units + 64 < cLine) : OpR X (compareOp .Eq) (rEqA X.K) := op_eq.or (op_eqD hu)
theorem op_neA (hu : X.A.units + 64 < cLine) : OpR X (compareOp .NotEq) (rNeA X.K) := op_ne.or (op_neD hu)
def dCmp (p : Int → Int → Bool) : F2 := fun d e M => match d, e with | .t (.int i), .t (.int j) => .ok (.t (.bl (p i j))) M | _, _ => .bad
theorem os_cmp {p : Int → Int → Bool} : OpS C (rI0 fun i j => .bl (p i j)) (dCmp p) := by
  intro al ρ M σ H d e x y Q r hx hy h
  unfold dCmp at h
  split at h
  · exact ⟨_, _, rep_int hx, rep_int hy, out_bl r h⟩
  · exact h.elim
abbrev dLt : F2 := dCmp fun i j => decide (i < j)
abbrev dLe : F2 := dCmp fun i j => decide (i ≤ j)
abbrev dGt : F2 := dCmp fun i j => decide (j < i)
abbrev dGe : F2 := dCmp fun i j => decide (j ≤ i)
/-- is None, is not None -/
def isNon : D → Option Bool
  | .und => none
  | .t .non => some true
  | _ => some false
def dIsN : F2 := fun d e M => match e, isNon d with | .t .non, some b => .ok (.t (.bl b)) M | _, _ => .bad
def dNotN : F2 := fun d e M => match e, isNon d with | .t .non, some b => .ok (.t (.bl (!b))) M | _, _ => .bad
theorem rep_non {c : Cr} {v : V} (h : Rep c (.t .non) v) : v = .non := by simpa only [Rep, RepT] using h
theorem isNon_rep {c : Cr} {d : D} {v : V} {b : Bool} (h : Rep c d v) (e : isNon d = some b) : decide (v = .non) = b := by
  unfold isNon at e
  split at e
  · cases e
  · cases e; rw [rep_non h]; rfl
  · cases e
    rename_i h1 h2
    refine decide_eq_false ?_
    rintro rfl
    cases d with
    | und => exact h
    | loc n => obtain ⟨a, e, _⟩ := h; cases e
    | t x =>
      cases x <;> simp only [Rep, RepT] at h
      · exact h2 rfl
      all_goals first | exact nomatch h | (obtain ⟨_, _, _, h, _⟩ := h; exact nomatch h) | (obtain ⟨_, _, h, _⟩ := h; exact nomatch h) | (obtain ⟨_, h, _⟩ := h; exact nomatch h)
theorem os_isN : OpS C (fun x y H Q => y = .non ∧ Q (.bl (decide (x = .non))) H) dIsN := by
  intro al ρ M σ H d e x y Q r hx hy h
  unfold dIsN at h
  split at h
  · rename_i b hb
    refine ⟨rep_non hy, ?_⟩
    rw [isNon_rep hx hb]; exact out_bl r h
  · exact h.elim
theorem os_notN : OpS C (fun x y H Q => y = .non ∧ Q (.bl (!decide (x = .non))) H) dNotN := by
  intro al ρ M σ H d e x y Q r hx hy h
  unfold dNotN at h
  split at h
  · rename_i b hb
    refine ⟨rep_non hy, ?_⟩
    rw [isNon_rep hx hb]; exact out_bl r h
  · exact h.elim
/-- in, not in -/
def inB (M : Mem) (d e : D) : Option Bool :=
  match d, e with
  | .t (.str x), .t (.str y) => match x.cps.toList with | [c] => some (decide (c ∈ y.cps.toList)) | _ => none
  | .t d, .t (.tup es) => match toV d, toVs es with | some v, some vs => some (inV v vs) | _, _ => none
  | d, e => match asL M e with
    | some es => match d, asTs es with
      | .t d, some es => match toV d, toVs es with | some v, some vs => some (inV v vs) | _, _ => none
      | _, _ => none
    | none => match asK M e, toKey d with
      | some kvs, some k => some (getK kvs k).isSome
      | _, _ => none
def dIn (neg : Bool) : F2 := fun d e M => match inB M d e with | some b => .ok (.t (.bl (if neg then !b else b))) M | none => .bad
def rInA (K : PySem.W.Frag) (neg : Bool) : R2 := fun x y H Q =>
  (∃ (c : Nat) (z : Str), x = .str ⟨#[c]⟩ ∧ y = .str z ∧ Q (.bl (if neg then !decide (c ∈ z.cps.toList) else decide (c ∈ z.cps.toList))) H) ∨ rIn K neg x y H Q ∨ rInD neg x y H Q
theorem op_inA (hu : X.A.units + 1 < cLine) : OpR X (compareOp .In) (rInA X.K false) := op_in_sign.or (op_in_seq.or (op_in_dict hu))
theorem op_notInA (hu : X.A.units + 1 < cLine) : OpR X (compareOp .NotIn) (rInA X.K true) := op_notIn_sign.or (op_notIn_seq.or (op_notIn_dict hu))
theorem repK_isSome {c : Cr} {kvs : List (Key × D)} {ws : List (Key × V)} (k : Key) (h : RepK c kvs ws) : (valV ws k).isSome = (getK kvs k).isSome := by
  have := RepK.get k h
  cases e : getK kvs k with
  | none => rw [e] at this; rw [this]; rfl
  | some d => rw [e] at this; obtain ⟨x, h1, _⟩ := this; rw [h1]; rfl
theorem str_one {x : Str} {c : Nat} (h : x.cps.toList = [c]) : x = ⟨#[c]⟩ := by
  cases x with | mk cps =>
  exact congrArg Str.mk (Array.ext' h)
theorem os_in (neg : Bool) : OpS C (rInA C.K neg) (dIn neg) := by
  intro al ρ M σ H d e x y Q r hx hy h
  unfold dIn at h
  split at h
  · rename_i b hb
    unfold inB at hb
    split at hb
    · split at hb
      · rename_i s1 s2 c hc
        cases hb
        exact .inl ⟨c, _, (rep_str hx).trans (congrArg V.str (str_one hc)), rep_str hy, out_bl r h⟩
      · cases hb
    · split at hb
      · cases hb
        rename_i v vs e1 e2
        obtain ⟨rfl, f1⟩ := toV_rep e1 hx
        obtain ⟨a, xs, rfl, h1, h2⟩ := rep_tup hy
        obtain ⟨rfl, f2⟩ := toVs_rep e2 h2
        exact .inr (.inl ⟨a, _, rfl, .inr h1, f1, f2, out_bl r h⟩)
      · cases hb
    · split at hb
      · rename_i es e0
        split at hb
        · rename_i t1 _ _
          split at hb
          · cases hb
            rename_i v vs e1 e2
            obtain ⟨rfl, f1⟩ := toV_rep e1 hx
            obtain ⟨a, xs, rfl, h1, h2⟩ := asL_rep r.toCells hy e0
            obtain ⟨rfl, f2⟩ := toVs_rep e2 (h2.asT t1)
            exact .inr (.inl ⟨a, _, rfl, .inl (SqL.of h1), f1, f2, out_bl r h⟩)
          · cases hb
        · cases hb
      · split at hb
        · cases hb
          rename_i kvs k e1 e2
          obtain ⟨a, ws, rfl, h1, h2⟩ := asK_rep r.toCells hy e1
          refine .inr (.inr ⟨a, valV ws k, rfl, .inl ⟨ws, k, h1, toKey_rep e2 hx, rfl⟩, ?_⟩)
          rw [repK_isSome k h2]
          exact out_bl r h
        · cases hb
  · exact h.elim
variable {a b c : Expr} {f g k : FE} {pos : Pos}
theorem pd_eq (hK : X.K = C.K) (hu : X.A.units + 64 < cLine) (ha : PD C X a f) (hb : PD C X b g) : PD C X (.Compare a [.Eq] [b] pos) (eOp dEq f g) := pd_cmp (r := rEqA X.K) (by rw [hK]; exact os_eq) (op_eqA hu) ha hb (nomark _)
theorem pd_ne (hK : X.K = C.K) (hu : X.A.units + 64 < cLine) (ha : PD C X a f) (hb : PD C X b g) : PD C X (.Compare a [.NotEq] [b] pos) (eOp dNe f g) := pd_cmp (r := rNeA X.K) (by rw [hK]; exact os_ne) (op_neA hu) ha hb (nomark _)
theorem pd_lt (ha : PD C X a f) (hb : PD C X b g) : PD C X (.Compare a [.Lt] [b] pos) (eOp dLt f g) := pd_cmp os_cmp op_lt ha hb (nomark _)
theorem pd_le (ha : PD C X a f) (hb : PD C X b g) : PD C X (.Compare a [.LtE] [b] pos) (eOp dLe f g) := pd_cmp os_cmp op_le ha hb (nomark _)
theorem pd_gt (ha : PD C X a f) (hb : PD C X b g) : PD C X (.Compare a [.Gt] [b] pos) (eOp dGt f g) := pd_cmp os_cmp op_gt ha hb (nomark _)
theorem pd_ge (ha : PD C X a f) (hb : PD C X b g) : PD C X (.Compare a [.GtE] [b] pos) (eOp dGe f g) := pd_cmp os_cmp op_ge ha hb (nomark _)
theorem pd_isN (ha : PD C X a f) (hb : PD C X b g) : PD C X (.Compare a [.Is] [b] pos) (eOp dIsN f g) := pd_cmp os_isN op_isN ha hb (nomark _)
theorem pd_notN (ha : PD C X a f) (hb : PD C X b g) : PD C X (.Compare a [.IsNot] [b] pos) (eOp dNotN f g) := pd_cmp os_notN op_notN ha hb (nomark _)
theorem pd_in (hK : X.K = C.K) (hu : X.A.units + 64 < cLine) (ha : PD C X a f) (hb : PD C X b g) (hm : behindInMarks .In b = false := by rfl) : PD C X (.Compare a [.In] [b] pos) (eOp (dIn false) f g) := pd_cmp (r := rInA X.K false) (by rw [hK]; exact os_in false) (op_inA (by omega)) ha hb hm
theorem pd_notIn (hK : X.K = C.K) (hu : X.A.units + 64 < cLine) (ha : PD C X a f) (hb : PD C X b g) (hm : behindInMarks .NotIn b = false := by rfl) : PD C X (.Compare a [.NotIn] [b] pos) (eOp (dIn true) f g) := pd_cmp (r := rInA X.K true) (by rw [hK]; exact os_in true) (op_notInA (by omega)) ha hb hm
theorem pt_eq (hK : X.K = C.K) (hu : X.A.units + 64 < cLine) (ha : PD C X a f) (hb : PD C X b g) : PDT C X (.Compare a [.Eq] [b] pos) (asT (eOp dEq f g)) := pt_cmpD (r := rEqA X.K) (by rw [hK]; exact os_eq) (op_eqA hu) ha hb (nomark _)
theorem pt_ne (hK : X.K = C.K) (hu : X.A.units + 64 < cLine) (ha : PD C X a f) (hb : PD C X b g) : PDT C X (.Compare a [.NotEq] [b] pos) (asT (eOp dNe f g)) := pt_cmpD (r := rNeA X.K) (by rw [hK]; exact os_ne) (op_neA hu) ha hb (nomark _)
theorem pt_lt (ha : PD C X a f) (hb : PD C X b g) : PDT C X (.Compare a [.Lt] [b] pos) (asT (eOp dLt f g)) := pt_cmpD os_cmp op_lt ha hb (nomark _)
theorem pt_le (ha : PD C X a f) (hb : PD C X b g) : PDT C X (.Compare a [.LtE] [b] pos) (asT (eOp dLe f g)) := pt_cmpD os_cmp op_le ha hb (nomark _)
theorem pt_gt (ha : PD C X a f) (hb : PD C X b g) : PDT C X (.Compare a [.Gt] [b] pos) (asT (eOp dGt f g)) := pt_cmpD os_cmp op_gt ha hb (nomark _)
theorem pt_ge (ha : PD C X a f) (hb : PD C X b g) : PDT C X (.Compare a [.GtE] [b] pos) (asT (eOp dGe f g)) := pt_cmpD os_cmp op_ge ha hb (nomark _)
theorem pt_isN (ha : PD C X a f) (hb : PD C X b g) : PDT C X (.Compare a [.Is] [b] pos) (asT (eOp dIsN f g)) := pt_cmpD os_isN op_isN ha hb (nomark _)
theorem pt_notN (ha : PD C X a f) (hb : PD C X b g) : PDT C X (.Compare a [.IsNot] [b] pos) (asT (eOp dNotN f g)) := pt_cmpD os_notN op_notN ha hb (nomark _)
theorem pt_in (hK : X.K = C.K) (hu : X.A.units + 64 < cLine) (ha : PD C X a f) (hb : PD C X b g) (hm : behindInMarks .In b = false := by rfl) : PDT C X (.Compare a [.In] [b] pos) (asT (eOp (dIn false) f g)) := pt_cmpD (r := rInA X.K false) (by rw [hK]; exact os_in false) (op_inA (by omega)) ha hb hm
theorem pt_notIn (hK : X.K = C.K) (hu : X.A.units + 64 < cLine) (ha : PD C X a f) (hb : PD C X b g) (hm : behindInMarks .NotIn b = false := by rfl) : PDT C X (.Compare a [.NotIn] [b] pos) (asT (eOp (dIn true) f g)) := pt_cmpD (r := rInA X.K true) (by rw [hK]; exact os_in true) (op_notInA (by omega)) ha hb hm
/-- a op b op' c -/
def eChain (F F' : F2) (f g k : FE) : FE := fun ρ M => (f ρ M).bind fun d M1 => (g ρ M1).bind fun e M2 => (F d e M2).bind fun z M3 =>
  match z with | .t (.bl b) => if b = true then (k ρ M3).bind fun w M4 => F' e w M4 else .ok (.t (.bl false)) M3 | _ => .bad
theorem tD_chain {r r' : R2} {F F' : F2} (ho : OpS C r F) (ho' : OpS C r' F') : ∀ σ H Q, tD C (eChain F F' f g k) σ H Q → tChain r r' (tD C f) (tD C g) (tD C k) σ H Q := by
  rintro σ H Q ⟨al, ρ, M, rl, h⟩
  refine ⟨al, ρ, M, rl, Out.mono (Out.bind h) fun d al1 M1 H1 s1 h1 r1 x hx => ?_⟩
  refine ⟨al1, ρ, M1, r1, Out.mono (Out.bind h1) fun e al2 M2 H2 s2 h2 r2 y hy => ?_⟩
  refine ho al2 ρ M2 σ H2 d e x y _ r2 (Rep.le s2.le hx) hy (Out.mono (Out.bind h2) fun z al3 M3 H3 s3 h3 r3 v hv => ?_)
  split at h3
  case h_2 => exact h3.elim
  rename_i b
  cases b with
  | false => exact ⟨false, rep_bl hv, out_bl r3 h3⟩
  | true =>
    refine ⟨true, rep_bl hv, ?_⟩
    show tD C k σ H3 _
    refine ⟨al3, ρ, M3, r3, Out.mono (Out.bind h3) fun w al4 M4 H4 s4 h4 r4 u hu => ?_⟩
    exact ho' al4 ρ M4 σ H4 e w y u Q r4 (Rep.le (s3.trans s4).le hy) hu h4
theorem pd_chain {op op' : CmpOp} {r r' : R2} {F F' : F2} (hs : OpS C r F) (hs' : OpS C r' F') (ho : OpR X (compareOp op) r) (ho' : OpR X (compareOp op') r') (ha : PD C X a f) (hb : PD C X b g) (hc : PD C X c k)
    (hm : lastMarks [op, op'] [b, c] = false := by with_unfolding_all rfl) : PD C X (.Compare a [op, op'] [b, c] pos) (eChain F F' f g k) := PE.wk (pe_chain ho ho' ha hb hc hm) (tD_chain hs hs')
theorem pt_chainD {op op' : CmpOp} {r r' : R2} {F F' : F2} (hs : OpS C r F) (hs' : OpS C r' F') (ho : OpR X (compareOp op) r) (ho' : OpR X (compareOp op') r') (ha : PD C X a f) (hb : PD C X b g) (hc : PD C X c k)
    (hm : lastMarks [op, op'] [b, c] = false := by with_unfolding_all rfl) : PDT C X (.Compare a [op, op'] [b, c] pos) (asT (eChain F F' f g k)) := PT.wk (pt_chain ho ho' ha hb hc hm) (tT_of (tD_chain hs hs'))
variable {p q : FT} {rest : List Expr}
def fAnd (p q : FT) : FT := fun ρ M => (p ρ M).bind fun b M1 => if b = true then q ρ M1 else .ok false M1
def fOr (p q : FT) : FT := fun ρ M => (p ρ M).bind fun b M1 => if b = true then .ok true M1 else q ρ M1
def fNot (p : FT) : FT := fun ρ M => (p ρ M).bind fun b M1 => .ok (!b) M1
abbrev PDW (C : Fc) (X : Cx) (e : Expr) (f : FT) : Prop := PW X e (tT C f)
theorem PW.wk {X : Cx} {e : Expr} {t u : TT} (h : PW X e t) (m : ∀ σ H Q, u σ H Q → t σ H Q) : PW X e u := ⟨fun w p s σ H Q I hu => h.run w p s σ H Q I (m σ H Q hu)⟩
theorem pw_and1D (ha : PDT C X a p) : PDW C X (.BoolOp .And [a] pos) p := pw_and1 ha
theorem pw_or1D (ha : PDT C X a p) : PDW C X (.BoolOp .Or [a] pos) p := pw_or1 ha
theorem pw_andD (ha : PDT C X a p) (hb : PDW C X (.BoolOp .And (b :: rest) pos) q) : PDW C X (.BoolOp .And (a :: b :: rest) pos) (fAnd p q) := by
  refine PW.wk (pw_and ha hb) ?_
  rintro σ H Q ⟨al, ρ, M, rl, h⟩
  refine ⟨al, ρ, M, rl, Out.mono (Out.bind h) fun c al1 M1 H1 s1 h1 r1 => ?_⟩
  cases c with
  | true => exact ⟨al1, ρ, M1, r1, h1⟩
  | false => exact Out.here h1 r1
theorem pw_orD (ha : PDT C X a p) (hb : PDW C X (.BoolOp .Or (b :: rest) pos) q) : PDW C X (.BoolOp .Or (a :: b :: rest) pos) (fOr p q) := by
  refine PW.wk (pw_or ha hb) ?_
  rintro σ H Q ⟨al, ρ, M, rl, h⟩
  refine ⟨al, ρ, M, rl, Out.mono (Out.bind h) fun c al1 M1 H1 s1 h1 r1 => ?_⟩
  cases c with
  | true => exact Out.here h1 r1
  | false => exact ⟨al1, ρ, M1, r1, h1⟩
theorem pt_ofW (h : PDW C X a p) : PDT C X a p := h.pt
theorem pt_notD (ha : PDT C X a p) : PDT C X (.UnaryOp .Not a pos) (fNot p) := by
  refine PT.wk (pt_not ha) ?_
  rintro σ H Q ⟨al, ρ, M, rl, h⟩
  exact ⟨al, ρ, M, rl, Out.mono (Out.bind h) fun c al1 M1 H1 s1 h1 r1 => Out.here h1 r1⟩
def eAnd (f g : FE) : FE := fun ρ M => (f ρ M).bind fun d M1 => match d with | .t (.bl b) => if b = true then g ρ M1 else .ok (.t (.bl false)) M1 | _ => .bad
def eOr (f g : FE) : FE := fun ρ M => (f ρ M).bind fun d M1 => match d with | .t (.bl b) => if b = true then .ok (.t (.bl true)) M1 else g ρ M1 | _ => .bad
def eNot (f : FE) : FE := fun ρ M => (f ρ M).bind fun d M1 => match d with | .t (.bl b) => .ok (.t (.bl (!b))) M1 | _ => .bad
theorem pd_one {op} (h : PD C X a f) : PD C X (.BoolOp op [a] pos) f := pe_one h
theorem pd_and (ha : PD C X a f) (hb : PD C X (.BoolOp .And (b :: rest) pos) g) : PD C X (.BoolOp .And (a :: b :: rest) pos) (eAnd f g) := by
  refine PE.wk (pe_and ha hb) ?_
  rintro σ H Q ⟨al, ρ, M, rl, h⟩
  refine ⟨al, ρ, M, rl, Out.mono (Out.bind h) fun d al1 M1 H1 s1 h1 r1 x hx => ?_⟩
  split at h1
  case h_2 => exact h1.elim
  rename_i b
  cases b with
  | true => exact ⟨true, rep_bl hx, ⟨al1, ρ, M1, r1, h1⟩⟩
  | false => exact ⟨false, rep_bl hx, out_bl r1 h1⟩
theorem pd_or (ha : PD C X a f) (hb : PD C X (.BoolOp .Or (b :: rest) pos) g) : PD C X (.BoolOp .Or (a :: b :: rest) pos) (eOr f g) := by
  refine PE.wk (pe_or ha hb) ?_
  rintro σ H Q ⟨al, ρ, M, rl, h⟩
  refine ⟨al, ρ, M, rl, Out.mono (Out.bind h) fun d al1 M1 H1 s1 h1 r1 x hx => ?_⟩
  split at h1
  case h_2 => exact h1.elim
  rename_i b
  cases b with
  | false => exact ⟨false, rep_bl hx, ⟨al1, ρ, M1, r1, h1⟩⟩
  | true => exact ⟨true, rep_bl hx, out_bl r1 h1⟩
theorem pd_not (ha : PD C X a f) : PD C X (.UnaryOp .Not a pos) (eNot f) := by
  refine PE.wk (pe_not ha) ?_
  rintro σ H Q ⟨al, ρ, M, rl, h⟩
  refine ⟨al, ρ, M, rl, Out.mono (Out.bind h) fun d al1 M1 H1 s1 h1 r1 x hx => ?_⟩
  split at h1
  case h_2 => exact h1.elim
  exact ⟨_, rep_bl hx, out_bl r1 h1⟩
def eIf (p : FT) (f g : FE) : FE := fun ρ M => (p ρ M).bind fun b M1 => if b = true then f ρ M1 else g ρ M1
theorem pd_if (hc : PDT C X c p) (ha : PD C X a f) (hb : PD C X b g) : PD C X (.IfExp c a b pos) (eIf p f g) := by
  refine PE.wk (pe_ifExp hc ha hb) ?_
  rintro σ H Q ⟨al, ρ, M, rl, h⟩
  refine ⟨al, ρ, M, rl, Out.mono (Out.bind h) fun c al1 M1 H1 s1 h1 r1 => ?_⟩
  cases c with
  | true => exact ⟨al1, ρ, M1, r1, h1⟩
  | false => exact ⟨al1, ρ, M1, r1, h1⟩
end
end LL
namespace LL
open PySem L2
section
variable {C : Fc} {X : Cx} {e : Expr} {es : List Expr} {f : FE} {fs : FA} {pos : Pos}
def aNil : FA := fun _ M => .ok [] M
def aCons (f : FE) (fs : FA) : FA := fun ρ M => (f ρ M).bind fun d M1 => (fs ρ M1).bind fun ds M2 => .ok (d :: ds) M2
/-- a tuple's or a list's items -/
def asS (M : Mem) : D → Option (List D)
  | .t (.tup ds) => some (ds.map .t)
  | d => asL M d
theorem asS_rep {al : List Addr} {M : Mem} {H : Hp} (r : Cells C al M H) {d : D} {v : V} {ds : List D} (h : Rep (C.cr al H) d v) (e : asS M d = some ds) : ∃ a xs, v = .ref a ∧ (SqL C.K H a xs ∨ SqT C.K H a xs) ∧ RepL (C.cr al H) ds xs := by
  unfold asS at e
  split at e
  · cases e
    obtain ⟨a, xs, rfl, h1, h2⟩ := rep_tup h
    exact ⟨a, xs, rfl, .inr h1, RepL.ofT h2⟩
  · obtain ⟨a, xs, rfl, h1, h2⟩ := asL_rep r h e
    exact ⟨a, xs, rfl, .inl (SqL.of h1), h2⟩
def aStar (f : FE) (fs : FA) : FA := fun ρ M => (f ρ M).bind fun d M1 => match asS M1 d with
  | some ds => (fs ρ M1).bind fun es M2 => .ok (ds ++ es) M2
  | none => .bad
theorem pa_nilD : PDA C X [] aNil := PA.wk pa_nil fun σ H Q ⟨al, ρ, M, rl, h⟩ => Out.here h rl _ RepL.nil
theorem pa_consD (ha : PD C X e f) (hr : PDA C X es fs) (hs : starEach (e :: es) X.env = (false, eval e X.env) :: starEach es X.env := by rfl) : PDA C X (e :: es) (aCons f fs) := by
  refine PA.wk (pa_cons ha hr hs) ?_
  rintro σ H Q ⟨al, ρ, M, rl, h⟩
  refine ⟨al, ρ, M, rl, Out.mono (Out.bind h) fun d al1 M1 H1 s1 h1 r1 x hx => ?_⟩
  refine ⟨al1, ρ, M1, r1, Out.mono (Out.bind h1) fun ds al2 M2 H2 s2 h2 r2 xs hxs => ?_⟩
  exact Out.here h2 r2 _ (RepL.cons (Rep.le s2.le hx) hxs)
theorem pa_starD (hK : X.K = C.K) {p : Pos} (ha : PD C X e f) (hr : PDA C X es fs) (hs : starEach (.Starred e p :: es) X.env = (true, eval e X.env) :: starEach es X.env := by rfl) : PDA C X (.Starred e p :: es) (aStar f fs) := by
  refine PA.wk (StX.pa_star ha hr hs) ?_
  rintro σ H Q ⟨al, ρ, M, rl, h⟩
  refine ⟨al, ρ, M, rl, Out.mono (Out.bind h) fun d al1 M1 H1 s1 h1 r1 x hx => ?_⟩
  split at h1
  · rename_i ds e1
    obtain ⟨p, xs, rfl, hq, hxs⟩ := asS_rep r1.toCells hx e1
    refine ⟨p, xs, rfl, by rw [hK]; exact hq.symm, ⟨al1, ρ, M1, r1, Out.mono (Out.bind h1) fun ds al2 M2 H2 s2 h2 r2 ys hys => ?_⟩⟩
    exact Out.here h2 r2 _ (RepL.append (RepL.le s2.le hxs) hys)
  · exact h1.elim
def eTup (fs : FA) : FE := fun ρ M => (fs ρ M).bind fun ds M1 => match asTs ds with | some ts => if ts.length ≤ sizeLine then .ok (.t (.tup ts)) M1 else .bad | none => .bad
def eLst (fs : FA) : FE := fun ρ M => (fs ρ M).bind fun ds M1 => match asTs ds with | some ts => if ts.length ≤ sizeLine then .ok (.t (.lst ts)) M1 else .bad | none => .bad
/-- as a cell -/
def eLstC (fs : FA) : FE := fun ρ M => (fs ρ M).bind fun ds M1 => if ds.length ≤ sizeLine then .ok (.loc M1.length) (M1 ++ [.lst ds]) else .bad
theorem pd_tup {x1} (h : PDA C X es fs) : PD C X (.Tuple es x1 pos) (eTup fs) := by
  refine PE.wk (pe_tup h) ?_
  rintro σ H Q ⟨al, ρ, M, rl, h⟩
  refine ⟨al, ρ, M, rl, Out.mono (Out.bind h) fun ds al1 M1 H1 s1 h1 r1 xs hxs => ?_⟩
  split at h1
  · rename_i ts e1
    have g := hxs.asT e1
    split at h1
    · rename_i hz
      exact ⟨by rw [g.len]; exact hz, fun p hp => out_newT r1 h1 g hp⟩
    · exact h1.elim
  · exact h1.elim
theorem pd_lst (h : PDA C X es fs) : PD C X (.List es pos) (eLst fs) := by
  refine PE.wk (pe_lst h) ?_
  rintro σ H Q ⟨al, ρ, M, rl, h⟩
  refine ⟨al, ρ, M, rl, Out.mono (Out.bind h) fun ds al1 M1 H1 s1 h1 r1 xs hxs => ?_⟩
  split at h1
  · rename_i ts e1
    have g := hxs.asT e1
    split at h1
    · rename_i hz
      exact ⟨by rw [g.len]; exact hz, fun p hp => out_newL r1 h1 g hp⟩
    · exact h1.elim
  · exact h1.elim
theorem pd_lstC (h : PDA C X es fs) : PD C X (.List es pos) (eLstC fs) := by
  refine PE.wk (pe_lst h) ?_
  rintro σ H Q ⟨al, ρ, M, rl, h⟩
  refine ⟨al, ρ, M, rl, Out.mono (Out.bind h) fun ds al1 M1 H1 s1 h1 r1 xs hxs => ?_⟩
  split at h1
  · rename_i hz
    exact ⟨by rw [hxs.len]; exact hz, fun p hp => out_cellL r1 h1 hxs hp⟩
  · exact h1.elim
end
section
variable {C : Fc} {X : Cx} {pos : Pos}
abbrev FP := List D → Mem → R (List (D × D))
def ePairs : List (FE × FE) → FP
  | [] => fun _ M => .ok [] M
  | (f, g) :: r => fun ρ M => (f ρ M).bind fun d M1 => (g ρ M1).bind fun e M2 => (ePairs r ρ M2).bind fun ps M3 => .ok ((d, e) :: ps) M3
def Rep2 (c : Cr) : List (D × D) → List (V × V) → Prop
  | [], xs => xs = []
  | (d, e) :: ds, xs => ∃ x y r, xs = (x, y) :: r ∧ Rep c d x ∧ Rep c e y ∧ Rep2 c ds r
theorem tPairs_of : ∀ (fs : List (FE × FE)) {al : List Addr} {ρ : List D} {M : Mem} {σ : L2.St} {H : Hp} {Q : List (V × V) → Hp → Prop}, Rel C al ρ M σ H →
    Out C al H (ePairs fs ρ M) (fun ds al' M' H' => Rel C al' ρ M' σ H' → ∀ ps, Rep2 (C.cr al' H') ds ps → Q ps H') → tPairs (fs.map fun fg => (tD C fg.1, tD C fg.2)) σ H Q
  | [], al, ρ, M, σ, H, Q, r, h => Out.here h r [] rfl
  | (f, g) :: fs, al, ρ, M, σ, H, Q, r, h => by
    show tD C f σ H _
    refine ⟨al, ρ, M, r, Out.mono (Out.bind h) fun d al1 M1 H1 s1 h1 r1 x hx => ?_⟩
    show tD C g σ H1 _
    refine ⟨al1, ρ, M1, r1, Out.mono (Out.bind h1) fun e al2 M2 H2 s2 h2 r2 y hy => ?_⟩
    refine tPairs_of fs r2 (Out.mono (Out.bind h2) fun ds al3 M3 H3 s3 h3 r3 ps hps => ?_)
    exact Out.here h3 r3 _ ⟨x, y, ps, rfl, Rep.le (s2.trans s3).le hx, Rep.le s3.le hy, hps⟩
/-- the pairs as keys and data -/
def keyed : List (D × D) → Option (List (Key × D))
  | [] => some []
  | (d, e) :: r => match toKey d, keyed r with | some k, some t => some ((k, e) :: t) | _, _ => none
theorem keyed_rep {c : Cr} : ∀ {ds : List (D × D)} {ps : List (V × V)} {kvs : List (Key × D)}, keyed ds = some kvs → Rep2 c ds ps → ∃ ws : List (Key × V), ps = ws.map (fun kv => (kV kv.1, kv.2)) ∧ RepK c kvs ws
  | [], _, _, e, h => by simp only [keyed] at e; cases e; cases h; exact ⟨[], rfl, RepK.nil⟩
  | (d, e) :: ds, _, _, h, ⟨x, y, r, e1, h1, h2, h3⟩ => by
    simp only [keyed] at h
    split at h
    · cases h
      rename_i k t ek et
      obtain ⟨ws, rfl, hw⟩ := keyed_rep et h3
      subst e1
      exact ⟨(k, y) :: ws, by rw [toKey_rep ek h1]; rfl, RepK.cons h2 hw⟩
    · cases h
def mrgK {A : Type} (kvs more : List (Key × A)) : List (Key × A) := more.foldl (fun acc kv => setK acc kv.1 kv.2) kvs
theorem mrgK_rep {c : Cr} : ∀ {more : List (Key × D)} {ws : List (Key × V)} {kvs : List (Key × D)} {vs : List (Key × V)}, RepK c more ws → RepK c kvs vs → RepK c (mrgK kvs more) (mergeK vs ws)
  | [], _, _, _, h, k => by simp only [RepK] at h; subst h; exact k
  | (j, d) :: r, _, _, _, ⟨x, t, e, h1, h2⟩, k => by
    subst e
    show RepK c (mrgK (setK _ j d) r) (mergeK (putK _ j x) t)
    exact mrgK_rep h2 (RepK.put j k h1)
def dispK (n : Nat) (M : Mem) (ps : List (D × D)) : Option (List (Key × D)) := match M[n]?, keyed ps with
  | some (.dct []), some kvs => if kvs.length ≤ 15 then some (mrgK [] kvs) else none
  | _, _ => none
/-- .. as a cell -/
def eDictC (fs : List (FE × FE)) : FE := fun ρ M => (ePairs fs ρ (M ++ [.dct []])).bind fun ps M1 => match dispK M.length M1 ps with | some kvs => .ok (.loc M.length) (M1.set M.length (.dct kvs)) | none => .bad
/-- the cell that was made is taken as a tree -/
def unC (n : Nat) (r : R D) : R D := r.bind fun d M1 => match d, popC n M1 with
  | .loc m, some (M2, .dct kvs) => if m = n then match asTk kvs with | some ts => .ok (.t (.dct ts)) M2 | none => .bad else .bad
  | .loc m, some (M2, .lst ds) => if m = n then match asTs ds with | some ts => .ok (.t (.lst ts)) M2 | none => .bad else .bad
  | .loc m, some (M2, .ins k fs) => if m = n then match asTf fs with | some ts => .ok (.t (.ins k ts)) M2 | none => .bad else .bad
  | _, _ => .bad
def eDict (fs : List (FE × FE)) : FE := fun ρ M => unC M.length (eDictC fs ρ M)
theorem pop_eq {n : Nat} {M M2 : Mem} {c : Cel} (h : popC n M = some (M2, c)) : M2 = M.take n ∧ M[n]? = some c ∧ M.length = n + 1 ∧ (M.take n).all (·.below n) = true := by
  unfold popC at h
  split at h
  · split at h
    · rename_i e hz
      cases h
      exact ⟨rfl, e, hz.1, hz.2⟩
    · cases h
  · cases h
/-- from a cell to a tree -/
theorem Out.unC {al : List Addr} {ρ : List D} {M : Mem} {σ : L2.St} {H : Hp} {Q : VK} {r : R D} (rl : Rel C al ρ M σ H) (h : Out C al H (LL.unC M.length r) (KE C ρ σ Q)) : Out C al H r (KE C ρ σ Q) := by
  cases r with
  | bad => exact h.elim
  | exc e M' => exact h
  | ok d M1 =>
  intro al1 H1 s1 r1 v hv
  have main : ∀ {m : Nat} {M2 : Mem} {c : Cel} {x : T}, d = .loc m → m = M.length → popC M.length M1 = some (M2, c) →
      (∀ a o, CellO (C.cr al1 H1) c o → H1 a = some o → (C.cr al H1).ok a → LeT (C.cr al1 H1) (C.cr al H1) → RepT (C.cr al H1) x (.ref a)) → Out C al H (R.ok (D.t x) M2) (KE C ρ σ Q) → Q v H1 := by
    intro m M2 c x hd hm hp hx ho
    subst hd; subst hm
    obtain ⟨rfl, e2, e3, e4⟩ := pop_eq hp
    obtain ⟨be, rfl, nb⟩ := s1.pre
    obtain ⟨a, rfl, ha⟩ := hv
    have ha' : (al ++ be)[M.length]? = some a := ha
    have hlen : (al ++ be).length = M.length + 1 := r1.len.trans e3
    have hal : al.length = M.length := rl.len
    have hbe : be.length = 1 := by rw [List.length_append] at hlen; omega
    obtain ⟨p, rfl⟩ : ∃ p, be = [p] := List.length_eq_one_iff.1 hbe
    have hap : a = p := by rw [← hal] at ha'; simp at ha'; exact ha'.symm
    subst hap
    obtain ⟨o, eo, co⟩ := r1.cell M.length a c ha e2
    have hp0 : H a = none := nb a (List.mem_singleton.2 rfl)
    have okp : (C.cr al H1).ok a := ⟨rl.toCells.new hp0, rl.dom a hp0⟩
    have rx := hx a o co eo okp le_drop
    have r2 : Rel C al ρ (M1.take M.length) σ H1 := by
      have := Rel.drop rl s1 r1.toCells (by rw [hal]; exact e4)
      rw [hal] at this; exact this
    exact ho al H1 s1.drop r2 _ rx
  simp only [LL.unC, R.bind] at h
  split at h
  · rename_i m M2 kvs e1
    split at h
    · rename_i hm
      split at h
      · rename_i ts et
        refine main rfl hm e1 (fun a o co eo ok L => ?_) h
        obtain ⟨ws, rfl, hw⟩ := co
        rw [asTk_eq et] at hw
        simp only [RepT]
        exact ⟨a, ws, rfl, .inl eo, ok, RepTk.le L (RepK.toT hw)⟩
      · exact h.elim
    · exact h.elim
  · rename_i m M2 kvs e1
    split at h
    · rename_i hm
      split at h
      · rename_i ts et
        refine main rfl hm e1 (fun a o co eo ok L => ?_) h
        obtain ⟨ws, rfl, hw⟩ := co
        rw [asTs_eq et] at hw
        simp only [RepT]
        exact ⟨a, ws, rfl, eo, ok, RepTs.le L (RepL.toT hw)⟩
      · exact h.elim
    · exact h.elim
  · rename_i m M2 k kvs e1
    split at h
    · rename_i hm
      split at h
      · rename_i ts et
        refine main rfl hm e1 (fun a o co eo ok L => ?_) h
        obtain ⟨dx, ws, rfl, hw⟩ := co
        rw [asTf_eq et] at hw
        simp only [RepT]
        exact ⟨a, dx, ws, rfl, eo, ok, RepTf.le L (RepF.toT hw)⟩
      · exact h.elim
    · exact h.elim
  · exact h.elim
/-- an expression that makes a cell, taken as a tree -/
def eUn (f : FE) : FE := fun ρ M => unC M.length (f ρ M)
theorem pd_un {e : Expr} {f : FE} (h : PD C X e f) : PD C X e (eUn f) :=
  PE.wk h fun σ H Q ⟨al, ρ, M, rl, h⟩ => ⟨al, ρ, M, rl, Out.unC rl h⟩
theorem pd_dictC {keys : List (Option Expr)} {values : List Expr} {fs : List (FE × FE)} (h : PPs X pos keys values (fs.map fun fg => (tD C fg.1, tD C fg.2))) (hall : keys.all (·.isSome) = true := by rfl) (hl : keys.length = values.length := by rfl) (h0 : keys ≠ [] := by exact fun z => nomatch z) (h15 : keys.length ≤ 15 := by decide) :
    PD C X (.Dict keys values pos) (eDictC fs) := by
  refine PE.wk (pe_disp h hall hl h0 h15) ?_
  rintro σ H Q ⟨al, ρ, M, rl, h⟩ p hp
  obtain ⟨r1, hl⟩ := rl.cell_new (d := .dct []) (o := .dK []) hp ⟨[], rfl, rfl⟩
  have s1 := stp_cell (o := .dK []) rl.toCells hp
  refine tPairs_of fs r1 (Out.mono (Out.bind (Out.step s1 h)) fun ps al2 M2 H2 s2 h2 r2 qs hqs => ?_)
  split at h2
  · rename_i kvs ek
    unfold dispK at ek
    split at ek
    · rename_i kv0 em e0
      split at ek
      · rename_i hz
        cases ek
        obtain ⟨ws, rfl, hw⟩ := keyed_rep e0 hqs
        have hlc : al2[M.length]? = some p := by
          obtain ⟨be, rfl, _⟩ := s2.pre
          rw [List.getElem?_append_left (by rw [List.length_append, rl.len]; simp), ← rl.len]
          simp
        obtain ⟨o, eo, xs, rfl, hx⟩ := r2.cell M.length p _ hlc em
        simp only [RepK] at hx
        subst hx
        refine ⟨eo, ws, rfl, by rw [hw.len]; exact hz, ?_⟩
        have r3 := r2.cell_set (d := .dct (mrgK [] kv0)) (o := .dK (mergeK [] ws)) hlc ⟨_, rfl, mrgK_rep hw RepK.nil⟩
        exact h2 al2 _ (stp_set r2.toCells (List.mem_of_getElem? hlc)) r3 _ ⟨p, rfl, hlc⟩
      · cases ek
    · cases ek
  · exact h2.elim
theorem pd_dict {keys : List (Option Expr)} {values : List Expr} {fs : List (FE × FE)} (h : PPs X pos keys values (fs.map fun fg => (tD C fg.1, tD C fg.2))) (hall : keys.all (·.isSome) = true := by rfl) (hl : keys.length = values.length := by rfl) (h0 : keys ≠ [] := by exact fun z => nomatch z) (h15 : keys.length ≤ 15 := by decide) :
    PD C X (.Dict keys values pos) (eDict fs) := pd_un (pd_dictC h hall hl h0 h15)
/-- {} -/
def eDict0C : FE := fun _ M => .ok (.loc M.length) (M ++ [.dct []])
theorem pd_dict0C : PD C X (.Dict [] [] pos) eDict0C := by
  refine PE.wk pe_dnewK ?_
  rintro σ H Q ⟨al, ρ, M, rl, h⟩ p hp
  exact out_cellK rl h RepK.nil hp
theorem pd_dict0 : PD C X (.Dict [] [] pos) (eC (.dct [])) := by
  refine PE.wk pe_dnewK ?_
  rintro σ H Q ⟨al, ρ, M, rl, h⟩ p hp
  exact out_newK rl h (by simp only [RepTk]) hp
end
section
variable {C : Fc} {X : Cx} {a b : Expr} {f g : FE} {pos : Pos}
def ixB (M : Mem) (d e : D) : Option D :=
  match d, e with
  | .t (.str z), .t (.int i) => if z.length ≤ sizeLine then match atI z.cps.toList i with | some c => some (.t (.str ⟨#[c]⟩)) | none => none else none
  | d, e => match asS M d with
    | some ds => match e with | .t (.int i) => atI ds i | _ => none
    | none => match asK M d, toKey e with
      | some kvs, some k => getK kvs k
      | _, _ => none
def dIx : F2 := fun d e M => match ixB M d e with | some x => .ok x M | none => .bad
def rIxA (K : PySem.W.Frag) : R2 := fun x y H Q => rIx K x y H Q ∨ rIxD x y H Q
theorem ix_all (hu : X.A.units + 1 < cLine) : IxR X (rIxA X.K) := ix_seq.or (ix_dict hu)
theorem atI_rep {c : Cr} {ds : List D} {xs : List V} {i : Int} {d : D} (h : RepL c ds xs) (e : atI ds i = some d) : ∃ x, atI xs i = some x ∧ Rep c d x := by
  unfold atI at e ⊢
  rw [h.len]
  cases ei : ixN ds.length i with
  | none => rw [ei] at e; cases e
  | some j =>
    rw [ei] at e
    exact h.get e
theorem os_ix : OpS C (rIxA C.K) dIx := by
  intro al ρ M σ H d e x y Q r hx hy h
  unfold dIx at h
  split at h
  · rename_i z hz
    unfold ixB at hz
    split at hz
    · split at hz
      · rename_i hl
        split at hz
        · rename_i c hc
          cases hz
          exact .inl (.inr (.inr ⟨_, _, c, rep_str hx, rep_int hy, hl, hc, out_str r h⟩))
        · cases hz
      · cases hz
    · split at hz
      · rename_i ds e1
        split at hz
        · obtain ⟨a, xs, rfl, h1, h2⟩ := asS_rep r.toCells hx e1
          obtain ⟨v, e3, e4⟩ := atI_rep h2 hz
          rcases h1 with h1 | h1
          · exact .inl (.inl ⟨a, xs, _, v, rfl, rep_int hy, h1, e3, Out.here h r v e4⟩)
          · exact .inl (.inr (.inl ⟨a, xs, _, v, rfl, rep_int hy, h1, e3, Out.here h r v e4⟩))
        · cases hz
      · split at hz
        · rename_i kvs k e1 e2
          obtain ⟨a, ws, rfl, h1, h2⟩ := asK_rep r.toCells hx e1
          have g := RepK.get k h2
          rw [hz] at g
          obtain ⟨v, e3, e4⟩ := g
          exact .inr ⟨a, v, rfl, .inl ⟨ws, k, h1, toKey_rep e2 hy, e3.symm⟩, Out.here h r v e4⟩
        · cases hz
  · exact h.elim
theorem pd_ix (hK : X.K = C.K) (hu : X.A.units + 64 < cLine) (ha : PD C X a f) (hb : PD C X b g) (hs : PlainIx b := by exact fun _ _ => rfl) : PD C X (.Subscript a b pos) (eOp dIx f g) :=
  PE.wk (pe_ix (r := rIxA X.K) (ix_all (by omega)) ha hb hs) (tD_op (r := rIxA X.K) (by rw [hK]; exact os_ix))
abbrev FO := List D → Mem → R (Option Int)
def oNone : FO := fun _ M => .ok none M
def oSome (f : FE) : FO := fun ρ M => (f ρ M).bind fun d M1 => match d with | .t (.int i) => .ok (some i) M1 | _ => .bad
def KO (C : Fc) (ρ : List D) (σ : L2.St) (Q : Option Int → Hp → Prop) : Option Int → List Addr → Mem → Hp → Prop := fun d al M H => Rel C al ρ M σ H → Q d H
def tO (C : Fc) (f : FO) : TO := fun σ H Q => ∃ al ρ M, Rel C al ρ M σ H ∧ Out C al H (f ρ M) (KO C ρ σ Q)
theorem PO.wk {e : Option Expr} {t u : TO} (h : PO X e t) (m : ∀ σ H Q, u σ H Q → t σ H Q) : PO X e u := ⟨fun p s σ H Q I hu => h.run p s σ H Q I (m σ H Q hu)⟩
abbrev PDO (C : Fc) (X : Cx) (e : Option Expr) (f : FO) : Prop := PO X e (tO C f)
theorem po_noneD : PDO C X none oNone := PO.wk po_none fun σ H Q ⟨al, ρ, M, rl, h⟩ => Out.here h rl
theorem po_someD (h : PD C X a f) : PDO C X (some a) (oSome f) := by
  refine PO.wk (po_some h) ?_
  rintro σ H Q ⟨al, ρ, M, rl, h⟩
  refine ⟨al, ρ, M, rl, Out.mono (Out.bind h) fun d al1 M1 H1 s1 h1 r1 x hx => ?_⟩
  split at h1
  · exact ⟨_, rep_int hx, Out.here h1 r1⟩
  · exact h1.elim
def cutT {A : Type} (xs : List A) (lo hi : Option Int) : List A := (xs.drop (HT.sIx xs.length 0 lo)).take (HT.sIx xs.length xs.length hi - HT.sIx xs.length 0 lo)
theorem cut_rep {c : Cr} {ds : List T} {xs : List V} (h : RepTs c ds xs) (lo hi : Option Int) : RepTs c (cutT ds lo hi) (cutV xs lo hi) := by
  unfold cutT cutV
  rw [h.len]
  refine RepL.toT ?_
  rw [List.map_take, List.map_drop]
  exact RepL.take _ (RepL.drop _ (RepL.ofT h))
/-- a text's part -/
def dSl (d : D) (lo hi : Option Int) (M : Mem) : R D :=
  match d with
  | .t (.tup ds) => .ok (.t (.tup (cutT ds lo hi))) M
  | .t (.str z) => if z.length ≤ sizeLine then .ok (.t (.str (cutS z lo hi))) M else .bad
  | d => match asL M d with
    | some ds => match asTs ds with | some ts => .ok (.t (.lst (cutT ts lo hi))) M | none => .bad
    | none => .bad
def eSl (f : FE) (l h : FO) : FE := fun ρ M => (f ρ M).bind fun d M1 => (l ρ M1).bind fun lo M2 => (h ρ M2).bind fun hi M3 => dSl d lo hi M3
def rSlX (K : PySem.W.Frag) : V → Option Int → Option Int → Hp → VK → Prop := fun x lo hi H Q => rSlA K x lo hi H Q ∨ rSlS x lo hi H Q ∨ rSlL K x lo hi H Q
theorem sl_all : SlR X (rSlX X.K) := sl_tupA.or (sl_str.or sl_list)
theorem cut_whole {A : Type} {xs : List A} {lo hi : Option Int} (h : HT.sIx xs.length 0 lo = 0 ∧ HT.sIx xs.length xs.length hi = xs.length) : cutT xs lo hi = xs := by
  unfold cutT
  rw [h.1, h.2]; simp
theorem sl_ok {al : List Addr} {ρ : List D} {M : Mem} {σ : L2.St} {H : Hp} {d : D} {v : V} {lo hi : Option Int} {Q : VK} (r : Rel C al ρ M σ H) (hx : Rep (C.cr al H) d v) (h : Out C al H (dSl d lo hi M) (KE C ρ σ Q)) : rSlX C.K v lo hi H Q := by
  unfold dSl at h
  split at h
  · obtain ⟨a, xs, rfl, h1, h2⟩ := rep_tup hx
    refine .inl ⟨a, xs, rfl, h1, fun hw => ?_, fun _ p hp => out_newT r h (cut_rep h2 lo hi) hp⟩
    rw [h2.len] at hw
    rw [cut_whole hw] at h
    exact Out.here h r _ hx
  · split at h
    · rename_i hz
      exact .inr (.inl ⟨_, rep_str hx, hz, out_str r h⟩)
    · exact h.elim
  · split at h
    · rename_i e1
      split at h
      · rename_i ts e2
        obtain ⟨a, xs, rfl, h1, h2⟩ := asL_rep r.toCells hx e1
        exact .inr (.inr ⟨a, xs, rfl, SqL.of h1, fun p hp => out_newL r h (cut_rep (h2.asT e2) lo hi) hp⟩)
      · exact h.elim
    · exact h.elim
theorem pd_slice (hK : X.K = C.K) {lo hi : Option Expr} {l u : FO} {p2 : Pos} (ha : PD C X a f) (hl : PDO C X lo l) (hh : PDO C X hi u) : PD C X (.Subscript a (.Slice lo hi none p2) pos) (eSl f l u) := by
  refine PE.wk (pe_slice (r := rSlX X.K) sl_all ha hl hh) ?_
  rintro σ H Q ⟨al, ρ, M, rl, h⟩
  refine ⟨al, ρ, M, rl, Out.mono (Out.bind h) fun d al1 M1 H1 s1 h1 r1 x hx => ?_⟩
  refine ⟨al1, ρ, M1, r1, Out.mono (Out.bind h1) fun i al2 M2 H2 s2 h2 r2 => ?_⟩
  refine ⟨al2, ρ, M2, r2, Out.mono (Out.bind h2) fun j al3 M3 H3 s3 h3 r3 => ?_⟩
  rw [hK]
  exact sl_ok r3 (Rep.le (s2.trans s3).le hx) h3
/-- xs[::-1] -/
def eRev (f : FE) : FE := fun ρ M => (f ρ M).bind fun d M1 => match asL M1 d with
  | some ds => match asTs ds with | some ts => .ok (.t (.lst ts.reverse)) M1 | none => .bad
  | none => .bad
theorem pd_rev (hK : X.K = C.K) {k} {p1 p2 p3 : Pos} (ha : PD C X a f) : PD C X (.Subscript a (.Slice none none (some (.UnaryOp .USub (.Constant (.int 1) k p1) p2)) p3) pos) (eRev f) := by
  refine PE.wk (pe_revL ha) ?_
  rintro σ H Q ⟨al, ρ, M, rl, h⟩
  refine ⟨al, ρ, M, rl, Out.mono (Out.bind h) fun d al1 M1 H1 s1 h1 r1 x hx => ?_⟩
  split at h1
  · rename_i e1
    split at h1
    · rename_i ts e2
      obtain ⟨a, xs, rfl, g1, g2⟩ := asL_rep r1.toCells hx e1
      refine ⟨a, xs, rfl, SqL.of g1, fun p hp => out_newL r1 h1 (RepL.toT ?_) hp⟩
      rw [List.map_reverse]
      exact (RepL.ofT (g2.asT e2)).rev
    · exact h1.elim
  · exact h1.elim
def eFld (k : Nat) (n : Str) (f : FE) : FE := fun ρ M => (f ρ M).bind fun d M1 => match asI M1 d with
  | some (j, fs) => if j = k then match fs.lookup n with | some x => .ok x M1 | none => .bad else .bad
  | none => .bad
theorem pd_fld (hK : X.K = C.K) {k : Nat} {n : Str} (hc : Cls C.K (C.cls k)) (hn : NoAttr C.K (C.cls k) n) (ha : PD C X a f) (hb : attributeBase a n X.env (eval a X.env) = eval a X.env := by rfl) : PD C X (.Attribute a n pos) (eFld k n f) := by
  refine PE.wk (pe_fld ha hb) ?_
  rintro σ H Q ⟨al, ρ, M, rl, h⟩
  refine ⟨al, ρ, M, rl, Out.mono (Out.bind h) fun d al1 M1 H1 s1 h1 r1 x hx => ?_⟩
  split at h1
  · rename_i j fs e1
    split at h1
    · rename_i hj
      subst hj
      split at h1
      · rename_i z e2
        obtain ⟨a, dx, xs, rfl, g1, g2⟩ := asI_rep r1.toCells hx e1
        have g := RepF.look n g2
        rw [e2] at g
        obtain ⟨v, e3, e4⟩ := g
        exact ⟨a, _, dx, xs, v, rfl, g1, by rw [hK]; exact hc, by rw [hK]; exact hn, e3, Out.here h1 r1 v e4⟩
      · exact h1.elim
    · exact h1.elim
  · exact h1.elim
end
end LL
namespace LL
open PySem L2
section
variable {A : Type} (le : A → A → Bool)
def ins1 (x : A) : List A → List A
  | [] => [x]
  | y :: r => if le x y = true then x :: y :: r else y :: ins1 x r
def isort : List A → List A
  | [] => []
  | x :: r => ins1 le x (isort r)
theorem ins1_perm (x : A) : ∀ l : List A, (ins1 le x l).Perm (x :: l)
  | [] => List.Perm.refl _
  | y :: r => by
    unfold ins1
    split
    · exact List.Perm.refl _
    · exact ((ins1_perm x r).cons y).trans (List.Perm.swap x y r)
theorem isort_perm : ∀ l : List A, (isort le l).Perm l
  | [] => List.Perm.refl _
  | x :: r => (ins1_perm le x _).trans ((isort_perm r).cons x)
variable {le} (tot : ∀ a b, le a b = true ∨ le b a = true) (tr : ∀ a b c, le a b = true → le b c = true → le a c = true)
include tot tr
theorem ins1_pw (x : A) : ∀ {l : List A}, l.Pairwise (fun a b => le a b = true) → (ins1 le x l).Pairwise (fun a b => le a b = true)
  | [], _ => List.pairwise_singleton _ _
  | y :: r, h => by
    obtain ⟨h1, h2⟩ := List.pairwise_cons.1 h
    unfold ins1
    split
    · rename_i hxy
      refine List.pairwise_cons.2 ⟨fun z hz => ?_, h⟩
      rcases List.mem_cons.1 hz with rfl | hz
      · exact hxy
      · exact tr x y z hxy (h1 z hz)
    · rename_i hxy
      refine List.pairwise_cons.2 ⟨fun z hz => ?_, ins1_pw x h2⟩
      rcases List.mem_cons.1 ((ins1_perm le x r).mem_iff.1 hz) with rfl | hz
      · exact (tot z y).resolve_left hxy
      · exact h1 z hz
theorem isort_pw : ∀ l : List A, (isort le l).Pairwise (fun a b => le a b = true)
  | [] => List.Pairwise.nil
  | x :: r => ins1_pw tot tr x (isort_pw r)
theorem isort_eq (as : ∀ a b, le a b = true → le b a = true → a = b) {l m : List A} (p : m.Perm l) (h : m.Pairwise (fun a b => le a b = true)) : m = isort le l :=
  List.Perm.eq_of_pairwise (fun a b _ _ h1 h2 => as a b h1 h2) h (isort_pw tot tr l) (p.trans (isort_perm le l).symm)
end
def leI (a b : Int) : Bool := decide (a ≤ b)
def sortI (l : List Int) : List Int := isort leI l
theorem leI_tot (a b : Int) : leI a b = true ∨ leI b a = true := by
  rcases Int.le_total a b with h | h
  · exact .inl (decide_eq_true h)
  · exact .inr (decide_eq_true h)
theorem leI_tr (a b c : Int) (h : leI a b = true) (k : leI b c = true) : leI a c = true := decide_eq_true (Int.le_trans (of_decide_eq_true h) (of_decide_eq_true k))
theorem sortI_eq {l m : List Int} (p : m.Perm l) (h : m.Pairwise (· ≤ ·)) : m = sortI l :=
  isort_eq leI_tot leI_tr (fun a b h k => Int.le_antisymm (of_decide_eq_true h) (of_decide_eq_true k)) p (h.imp fun h => decide_eq_true h)
def leS (a b : Str) : Bool := decide (a.cps.toList ≤ b.cps.toList)
def sortS (l : List Str) : List Str := isort leS l
theorem leS_tot (a b : Str) : leS a b = true ∨ leS b a = true := by
  rcases List.le_total a.cps.toList b.cps.toList with h | h
  · exact .inl (decide_eq_true h)
  · exact .inr (decide_eq_true h)
theorem leS_tr (a b c : Str) (h : leS a b = true) (k : leS b c = true) : leS a c = true := decide_eq_true (List.le_trans (of_decide_eq_true h) (of_decide_eq_true k))
theorem leS_as (a b : Str) (h : leS a b = true) (k : leS b a = true) : a = b := by
  have := List.le_antisymm (of_decide_eq_true h) (of_decide_eq_true k)
  cases a; cases b
  exact congrArg Str.mk (Array.ext' this)
theorem le_of_rising : ∀ {l : List Str} {x : Str}, PyProof.Rows.risingS x l = true → (x :: l).Pairwise (fun a b => leS a b = true)
  | [], x, _ => List.pairwise_singleton _ _
  | y :: r, x, h => by
    unfold PyProof.Rows.risingS at h
    rw [Bool.and_eq_true] at h
    have h2 := le_of_rising h.2
    have hxy : leS x y = true := by
      have := h.1
      rw [PyProof.Rows.ltCps_eq] at this
      simp at this
      exact decide_eq_true (by simpa using this)
    refine List.pairwise_cons.2 ⟨fun z hz => ?_, h2⟩
    rcases List.mem_cons.1 hz with rfl | hz
    · exact hxy
    · exact leS_tr x y z hxy ((List.pairwise_cons.1 h2).1 z hz)
theorem sortS_eq {l m : List Str} (p : m.Perm l) (h : PyProof.Rows.sortedS m = true) : m = sortS l := by
  refine isort_eq leS_tot leS_tr leS_as p ?_
  cases m with
  | nil => exact List.Pairwise.nil
  | cons x r => exact le_of_rising h
end LL
namespace LL
open PySem L2
abbrev FN := List D → Mem → R D
def eCall (F : FN) (fs : FA) : FE := fun ρ M => (fs ρ M).bind fun ds M1 => F ds M1
def CallS (C : Fc) (r : List V → Hp → VK → Prop) (F : FN) : Prop := ∀ al ρ M σ H ds vs Q, Rel C al ρ M σ H → RepL (C.cr al H) ds vs → Out C al H (F ds M) (KE C ρ σ Q) → r vs H Q
section
variable {C : Fc} {X : Cx}
theorem tD_call {r : List V → Hp → VK → Prop} {F : FN} {fs : FA} (hs : CallS C r F) : ∀ σ H Q, tD C (eCall F fs) σ H Q → tCB r (tA C fs) σ H Q := by
  rintro σ H Q ⟨al, ρ, M, rl, h⟩
  exact ⟨al, ρ, M, rl, Out.mono (Out.bind h) fun ds al1 M1 H1 s1 h1 r1 vs hv => hs al1 ρ M1 σ H1 ds vs Q r1 hv h1⟩
variable {x : Str} {e : Expr} {es : List Expr} {p pos : Pos} {fs : FA} {F : FN} {r : List V → Hp → VK → Prop}
theorem pd_callB {id : String} (hs : CallS C r F) (hc : CallR X (.builtin id) r) (hg : Gl X x) (hm : X.mg x = none) (hv : bootBuiltins x = some (.builtin id)) (ha : PDA C X (e :: es) fs) (hn : x ≠ "__name__" := by decide) (hdb : (x == ("__debug__" : Str)) = false := by decide)
    (he : starEach (e :: es) X.env = (false, eval e X.env) :: starEach es X.env := by rfl) (hpl : (backTo pos (starEach es X.env)).any (·.1) = false := by rfl) : PD C X (.Call (.Name x p) (e :: es) [] pos) (eCall F fs) :=
  PE.wk (pe_callB hc hg hm hv ha hn hdb he hpl) (tD_call hs)
theorem pd_callTy {T : String} (hs : CallS C r F) (hc : CallR X (.type T) r) (hg : Gl X x) (hm : X.mg x = none) (hv : bootBuiltins x = some (.type T)) (ha : PDA C X (e :: es) fs) (hn : x ≠ "__name__" := by decide) (hdb : (x == ("__debug__" : Str)) = false := by decide)
    (he : starEach (e :: es) X.env = (false, eval e X.env) :: starEach es X.env := by rfl) (hpl : (backTo pos (starEach es X.env)).any (·.1) = false := by rfl) : PD C X (.Call (.Name x p) (e :: es) [] pos) (eCall F fs) :=
  PE.wk (pe_callTy hc hg hm hv ha hn hdb he hpl) (tD_call hs)
def F1 (F : D → Mem → R D) : FN := fun ds M => match ds with | [d] => F d M | _ => .bad
theorem cs1 {F : D → Mem → R D} (h : ∀ al ρ M σ H d v Q, Rel C al ρ M σ H → Rep (C.cr al H) d v → Out C al H (F d M) (KE C ρ σ Q) → r [v] H Q) : CallS C r (F1 F) := by
  intro al ρ M σ H ds vs Q rl hv ho
  unfold F1 at ho
  split at ho
  · obtain ⟨v, t, rfl, h1, h2⟩ := hv
    cases h2
    exact h al ρ M σ H _ v Q rl h1 ho
  · exact ho.elim
def lenB (M : Mem) (d : D) : Option Nat := match d with
  | .t (.str z) => if z.length ≤ sizeLine then some z.length else none
  | .t (.scr ns) => some ns.length
  | d => match asS M d with
    | some ds => some ds.length
    | none => (asK M d).map (·.length)
def fLen : FN := F1 fun d M => match lenB M d with | some n => .ok (.t (.int n)) M | none => .bad
def rLenA (K : PySem.W.Frag) : List V → Hp → VK → Prop := fun xs H Q => (∃ x n, xs = [x] ∧ LenV K x H n ∧ Q (.int n) H) ∨ ∃ a kvs, xs = [V.ref a] ∧ Rd H a (.dK kvs) ∧ Q (.int kvs.length) H
theorem call_lenR : CallR X (.builtin "len") (fun xs H Q => ∃ a kvs, xs = [V.ref a] ∧ Rd H a (.dK kvs) ∧ Q (.int kvs.length) H) := by
  intro pins s σ H xs us Q I r h
  obtain ⟨a, kvs, rfl, ha, q⟩ := h
  obtain ⟨u, rfl, ru⟩ := vals1 r
  cases ru
  exact d_len I ha fun t s' I' => ⟨.int kvs.length, H, I', ⟨t, rfl⟩, q⟩
theorem call_lenA : CallR X (.builtin "len") (rLenA X.K) := call_len.or call_lenR
theorem cs_len : CallS C (rLenA C.K) fLen := by
  refine cs1 fun al ρ M σ H d v Q rl hv ho => ?_
  split at ho
  · rename_i n hn
    unfold lenB at hn
    split at hn
    · split at hn
      · rename_i hz
        cases hn
        rw [rep_str hv]
        exact .inl ⟨_, _, rfl, ⟨hz, rfl⟩, out_int rl ho⟩
      · cases hn
    · cases hn
      simp only [Rep, RepT] at hv
      obtain ⟨a, rfl, hv⟩ := hv
      rename_i ns
      have hq : SqL C.K H a (ns.map V.int) := by
        rcases hv with ⟨h, _⟩ | h
        · exact .inl h
        · exact h _
      exact .inl ⟨_, _, rfl, .inl ⟨_, hq, (List.length_map ..).symm⟩, out_int rl ho⟩
    · split at hn
      · cases hn
        rename_i ds e1
        obtain ⟨a, xs, rfl, h1, h2⟩ := asS_rep rl.toCells hv e1
        refine .inl ⟨_, ds.length, rfl, ?_, out_int rl ho⟩
        rw [← h2.len]
        rcases h1 with h1 | h1
        · exact .inl ⟨xs, h1, rfl⟩
        · exact .inr ⟨xs, h1, rfl⟩
      · simp only [Option.map_eq_some_iff] at hn
        obtain ⟨kvs, e1, rfl⟩ := hn
        obtain ⟨a, ws, rfl, h1, h2⟩ := asK_rep rl.toCells hv e1
        exact .inr ⟨a, ws, rfl, h1, by rw [h2.len]; exact out_int rl ho⟩
  · exact ho.elim
def asBs : List T → Option (List Bool)
  | [] => some []
  | .bl b :: r => (asBs r).map (b :: ·)
  | _ :: _ => none
def asIs : List T → Option (List Int)
  | [] => some []
  | .int b :: r => (asIs r).map (b :: ·)
  | _ :: _ => none
def asSs : List T → Option (List Str)
  | [] => some []
  | .str b :: r => (asSs r).map (b :: ·)
  | _ :: _ => none
theorem asBs_eq : ∀ {ts : List T} {bs : List Bool}, asBs ts = some bs → ts = bs.map .bl
  | [], _, e => by simp only [asBs] at e; cases e; rfl
  | t :: r, _, e => by
    cases t <;> simp only [asBs] at e <;> try cases e
    simp only [Option.map_eq_some_iff] at e
    obtain ⟨l, e1, rfl⟩ := e
    rw [asBs_eq e1]; rfl
theorem asIs_eq : ∀ {ts : List T} {bs : List Int}, asIs ts = some bs → ts = bs.map .int
  | [], _, e => by simp only [asIs] at e; cases e; rfl
  | t :: r, _, e => by
    cases t <;> simp only [asIs] at e <;> try cases e
    simp only [Option.map_eq_some_iff] at e
    obtain ⟨l, e1, rfl⟩ := e
    rw [asIs_eq e1]; rfl
theorem asSs_eq : ∀ {ts : List T} {bs : List Str}, asSs ts = some bs → ts = bs.map .str
  | [], _, e => by simp only [asSs] at e; cases e; rfl
  | t :: r, _, e => by
    cases t <;> simp only [asSs] at e <;> try cases e
    simp only [Option.map_eq_some_iff] at e
    obtain ⟨l, e1, rfl⟩ := e
    rw [asSs_eq e1]; rfl
@[simp] theorem asBs_map : ∀ bs : List Bool, asBs (bs.map .bl) = some bs
  | [] => rfl
  | b :: r => by simp only [List.map_cons, asBs, asBs_map r, Option.map_some]
@[simp] theorem asIs_map : ∀ bs : List Int, asIs (bs.map .int) = some bs
  | [] => rfl
  | b :: r => by simp only [List.map_cons, asIs, asIs_map r, Option.map_some]
@[simp] theorem asSs_map : ∀ bs : List Str, asSs (bs.map .str) = some bs
  | [] => rfl
  | b :: r => by simp only [List.map_cons, asSs, asSs_map r, Option.map_some]
theorem repBs {c : Cr} : ∀ {bs : List Bool} {vs : List V}, RepTs c (bs.map .bl) vs → vs = bs.map V.bl
  | [], _, h => by simp only [List.map_nil, RepTs] at h; exact h
  | b :: r, _, h => by
    simp only [List.map_cons, RepTs, RepT] at h
    obtain ⟨x, t, rfl, rfl, h2⟩ := h
    rw [repBs h2]; rfl
theorem repIs {c : Cr} : ∀ {bs : List Int} {vs : List V}, RepTs c (bs.map .int) vs → vs = bs.map V.int
  | [], _, h => by simp only [List.map_nil, RepTs] at h; exact h
  | b :: r, _, h => by
    simp only [List.map_cons, RepTs, RepT] at h
    obtain ⟨x, t, rfl, rfl, h2⟩ := h
    rw [repIs h2]; rfl
theorem repSs {c : Cr} : ∀ {bs : List Str} {vs : List V}, RepTs c (bs.map .str) vs → vs = bs.map V.str
  | [], _, h => by simp only [List.map_nil, RepTs] at h; exact h
  | b :: r, _, h => by
    simp only [List.map_cons, RepTs, RepT] at h
    obtain ⟨x, t, rfl, rfl, h2⟩ := h
    rw [repSs h2]; rfl
theorem ofIs {c : Cr} : ∀ bs : List Int, RepTs c (bs.map .int) (bs.map V.int)
  | [] => by simp only [List.map_nil, RepTs]
  | b :: r => by simp only [List.map_cons, RepTs, RepT]; exact ⟨_, _, rfl, rfl, ofIs r⟩
theorem ofSs {c : Cr} : ∀ bs : List Str, RepTs c (bs.map .str) (bs.map V.str)
  | [] => by simp only [List.map_nil, RepTs]
  | b :: r => by simp only [List.map_cons, RepTs, RepT]; exact ⟨_, _, rfl, rfl, ofSs r⟩
/-- a list's trees -/
def asLT (M : Mem) (d : D) : Option (List T) := (asL M d).bind asTs
theorem asLT_rep {al : List Addr} {M : Mem} {H : Hp} (r : Cells C al M H) {d : D} {v : V} {ts : List T} (h : Rep (C.cr al H) d v) (e : asLT M d = some ts) : ∃ a xs, v = .ref a ∧ H a = some (.lst xs) ∧ RepTs (C.cr al H) ts xs := by
  unfold asLT at e
  cases e1 : asL M d with
  | none => rw [e1] at e; cases e
  | some ds =>
    rw [e1] at e
    obtain ⟨a, xs, ev, h1, h2⟩ := asL_rep r h e1
    exact ⟨a, xs, ev, h1, h2.asT e⟩
def fAll : FN := F1 fun d M => match (asLT M d).bind asBs with | some bs => .ok (.t (.bl (bs.all id))) M | none => .bad
def fAny : FN := F1 fun d M => match (asLT M d).bind asBs with | some bs => .ok (.t (.bl (bs.any id))) M | none => .bad
def fSum : FN := F1 fun d M => match (asLT M d).bind asIs with | some bs => .ok (.t (.int bs.sum)) M | none => .bad
theorem bs_of {al : List Addr} {M : Mem} {H : Hp} (r : Cells C al M H) {d : D} {v : V} {bs : List Bool} (h : Rep (C.cr al H) d v) (e : (asLT M d).bind asBs = some bs) : ∃ a, v = .ref a ∧ SqL C.K H a (bs.map V.bl) := by
  cases e1 : asLT M d with
  | none => rw [e1] at e; cases e
  | some ts =>
    rw [e1] at e
    obtain ⟨a, xs, rfl, h1, h2⟩ := asLT_rep r h e1
    rw [asBs_eq e] at h2
    exact ⟨a, rfl, by rw [← repBs h2]; exact SqL.of h1⟩
theorem is_of {al : List Addr} {M : Mem} {H : Hp} (r : Cells C al M H) {d : D} {v : V} {bs : List Int} (h : Rep (C.cr al H) d v) (e : (asLT M d).bind asIs = some bs) : ∃ a, v = .ref a ∧ SqL C.K H a (bs.map V.int) := by
  cases e1 : asLT M d with
  | none => rw [e1] at e; cases e
  | some ts =>
    rw [e1] at e
    obtain ⟨a, xs, rfl, h1, h2⟩ := asLT_rep r h e1
    rw [asIs_eq e] at h2
    exact ⟨a, rfl, by rw [← repIs h2]; exact SqL.of h1⟩
theorem ss_of {al : List Addr} {M : Mem} {H : Hp} (r : Cells C al M H) {d : D} {v : V} {bs : List Str} (h : Rep (C.cr al H) d v) (e : (asLT M d).bind asSs = some bs) : ∃ a, v = .ref a ∧ SqL C.K H a (bs.map V.str) := by
  cases e1 : asLT M d with
  | none => rw [e1] at e; cases e
  | some ts =>
    rw [e1] at e
    obtain ⟨a, xs, rfl, h1, h2⟩ := asLT_rep r h e1
    rw [asSs_eq e] at h2
    exact ⟨a, rfl, by rw [← repSs h2]; exact SqL.of h1⟩
theorem cs_all : CallS C (rAll C.K) fAll := by
  refine cs1 fun al ρ M σ H d v Q rl hv ho => ?_
  split at ho
  · rename_i bs hb
    obtain ⟨a, rfl, h1⟩ := bs_of rl.toCells hv hb
    exact ⟨a, bs, rfl, h1, out_bl rl ho⟩
  · exact ho.elim
theorem cs_any : CallS C (rAny C.K) fAny := by
  refine cs1 fun al ρ M σ H d v Q rl hv ho => ?_
  split at ho
  · rename_i bs hb
    obtain ⟨a, rfl, h1⟩ := bs_of rl.toCells hv hb
    exact ⟨a, bs, rfl, h1, out_bl rl ho⟩
  · exact ho.elim
theorem cs_sum : CallS C (rSum C.K) fSum := by
  refine cs1 fun al ρ M σ H d v Q rl hv ho => ?_
  split at ho
  · rename_i bs hb
    obtain ⟨a, rfl, h1⟩ := is_of rl.toCells hv hb
    exact ⟨a, bs, rfl, h1, out_int rl ho⟩
  · exact ho.elim
def minI : List Int → Int
  | [] => 0
  | x :: r => r.foldl (fun a b => if b < a then b else a) x
def maxI : List Int → Int
  | [] => 0
  | x :: r => r.foldl (fun a b => if a < b then b else a) x
theorem foldl_min : ∀ (r : List Int) (x : Int), (r.foldl (fun a b => if b < a then b else a) x = x ∨ r.foldl (fun a b => if b < a then b else a) x ∈ r) ∧ r.foldl (fun a b => if b < a then b else a) x ≤ x ∧ ∀ y ∈ r, r.foldl (fun a b => if b < a then b else a) x ≤ y
  | [], x => ⟨.inl rfl, Int.le_refl _, fun _ h => nomatch h⟩
  | z :: r, x => by
    rw [List.foldl_cons]
    obtain ⟨h1, h2, h3⟩ := foldl_min r (if z < x then z else x)
    refine ⟨?_, ?_, fun y hy => ?_⟩
    · rcases h1 with h1 | h1
      · by_cases hz : z < x
        · rw [if_pos hz] at h1 ⊢; rw [h1]; exact .inr (List.mem_cons_self ..)
        · rw [if_neg hz] at h1 ⊢; exact .inl h1
      · exact .inr (List.mem_cons_of_mem _ h1)
    · refine Int.le_trans h2 ?_
      split <;> omega
    · rcases List.mem_cons.1 hy with rfl | hy
      · refine Int.le_trans h2 ?_
        split <;> omega
      · exact h3 y hy
theorem foldl_max : ∀ (r : List Int) (x : Int), (r.foldl (fun a b => if a < b then b else a) x = x ∨ r.foldl (fun a b => if a < b then b else a) x ∈ r) ∧ x ≤ r.foldl (fun a b => if a < b then b else a) x ∧ ∀ y ∈ r, y ≤ r.foldl (fun a b => if a < b then b else a) x
  | [], x => ⟨.inl rfl, Int.le_refl _, fun _ h => nomatch h⟩
  | z :: r, x => by
    rw [List.foldl_cons]
    obtain ⟨h1, h2, h3⟩ := foldl_max r (if x < z then z else x)
    refine ⟨?_, ?_, fun y hy => ?_⟩
    · rcases h1 with h1 | h1
      · by_cases hz : x < z
        · rw [if_pos hz] at h1 ⊢; rw [h1]; exact .inr (List.mem_cons_self ..)
        · rw [if_neg hz] at h1 ⊢; exact .inl h1
      · exact .inr (List.mem_cons_of_mem _ h1)
    · refine Int.le_trans ?_ h2
      split <;> omega
    · rcases List.mem_cons.1 hy with rfl | hy
      · refine Int.le_trans ?_ h2
        split <;> omega
      · exact h3 y hy
theorem minI_spec {l : List Int} (h : 0 < l.length) : minI l ∈ l ∧ ∀ y ∈ l, minI l ≤ y := by
  cases l with
  | nil => simp at h
  | cons x r =>
    obtain ⟨h1, h2, h3⟩ := foldl_min r x
    refine ⟨?_, fun y hy => ?_⟩
    · rcases h1 with h1 | h1
      · exact List.mem_cons.2 (.inl h1)
      · exact List.mem_cons.2 (.inr h1)
    · rcases List.mem_cons.1 hy with rfl | hy
      · exact h2
      · exact h3 y hy
theorem maxI_spec {l : List Int} (h : 0 < l.length) : maxI l ∈ l ∧ ∀ y ∈ l, y ≤ maxI l := by
  cases l with
  | nil => simp at h
  | cons x r =>
    obtain ⟨h1, h2, h3⟩ := foldl_max r x
    refine ⟨?_, fun y hy => ?_⟩
    · rcases h1 with h1 | h1
      · exact List.mem_cons.2 (.inl h1)
      · exact List.mem_cons.2 (.inr h1)
    · rcases List.mem_cons.1 hy with rfl | hy
      · exact h2
      · exact h3 y hy
def fMin : FN := fun ds M => match ds with
  | [.t (.int i), .t (.int j)] => .ok (.t (.int (if j < i then j else i))) M
  | [d] => match (asLT M d).bind asIs with | some bs => if 0 < bs.length then .ok (.t (.int (minI bs))) M else .bad | none => .bad
  | _ => .bad
def fMax : FN := fun ds M => match ds with
  | [.t (.int i), .t (.int j)] => .ok (.t (.int (if j > i then j else i))) M
  | [d] => match (asLT M d).bind asIs with | some bs => if 0 < bs.length then .ok (.t (.int (maxI bs))) M else .bad | none => .bad
  | _ => .bad
def rMinA (K : PySem.W.Frag) : List V → Hp → VK → Prop := fun xs H Q => (∃ i j, xs = [.int i, .int j] ∧ Q (.int (if j < i then j else i)) H) ∨ rMin K xs H Q
def rMaxA (K : PySem.W.Frag) : List V → Hp → VK → Prop := fun xs H Q => (∃ i j, xs = [.int i, .int j] ∧ Q (.int (if j > i then j else i)) H) ∨ rMax K xs H Q
theorem call_minA (hc : X.calm = true) : CallR X (.builtin "min") (rMinA X.K) := (call_min2 hc).or (cr_min hc)
theorem call_maxA (hc : X.calm = true) : CallR X (.builtin "max") (rMaxA X.K) := (call_max2 hc).or (cr_max hc)
theorem cs_min : CallS C (rMinA C.K) fMin := by
  intro al ρ M σ H ds vs Q rl hv ho
  unfold fMin at ho
  split at ho
  · obtain ⟨v, t, rfl, h1, h2⟩ := hv
    obtain ⟨w, t2, rfl, h3, h4⟩ := h2
    cases h4
    exact .inl ⟨_, _, by rw [rep_int h1, rep_int h3], out_int rl ho⟩
  · obtain ⟨v, t, rfl, h1, h2⟩ := hv
    cases h2
    split at ho
    · rename_i bs hb
      split at ho
      · rename_i hz
        obtain ⟨a, rfl, g⟩ := is_of rl.toCells h1 hb
        refine .inr ⟨a, bs, rfl, g, hz, fun m h1 h2 => ?_⟩
        obtain ⟨g1, g2⟩ := minI_spec hz
        rw [Int.le_antisymm (h2 _ g1) (g2 _ h1)]
        exact out_int rl ho
      · exact ho.elim
    · exact ho.elim
  · exact ho.elim
theorem cs_max : CallS C (rMaxA C.K) fMax := by
  intro al ρ M σ H ds vs Q rl hv ho
  unfold fMax at ho
  split at ho
  · obtain ⟨v, t, rfl, h1, h2⟩ := hv
    obtain ⟨w, t2, rfl, h3, h4⟩ := h2
    cases h4
    exact .inl ⟨_, _, by rw [rep_int h1, rep_int h3], out_int rl ho⟩
  · obtain ⟨v, t, rfl, h1, h2⟩ := hv
    cases h2
    split at ho
    · rename_i bs hb
      split at ho
      · rename_i hz
        obtain ⟨a, rfl, g⟩ := is_of rl.toCells h1 hb
        refine .inr ⟨a, bs, rfl, g, hz, fun m h1 h2 => ?_⟩
        obtain ⟨g1, g2⟩ := maxI_spec hz
        rw [Int.le_antisymm (g2 _ h1) (h2 _ g1)]
        exact out_int rl ho
      · exact ho.elim
    · exact ho.elim
  · exact ho.elim
def fAbs : FN := F1 fun d M => match d with | .t (.int i) => .ok (.t (.int (if i < 0 then -i else i))) M | _ => .bad
def fInt : FN := F1 fun d M => match d with | .t (.int i) => .ok (.t (.int i)) M | .t (.bl k) => .ok (.t (.int (if k then 1 else 0))) M | _ => .bad
theorem cs_abs : CallS C (fun xs H Q => ∃ i, xs = [.int i] ∧ Q (.int (if i < 0 then -i else i)) H) fAbs := by
  refine cs1 fun al ρ M σ H d v Q rl hv ho => ?_
  split at ho
  · exact ⟨_, by rw [rep_int hv], out_int rl ho⟩
  · exact ho.elim
theorem cs_int : CallS C (fun xs H Q => (∃ i, xs = [.int i] ∧ Q (.int i) H) ∨ ∃ k, xs = [.bl k] ∧ Q (.int (if k then 1 else 0)) H) fInt := by
  refine cs1 fun al ρ M σ H d v Q rl hv ho => ?_
  split at ho
  · exact .inl ⟨_, by rw [rep_int hv], out_int rl ho⟩
  · exact .inr ⟨_, by rw [rep_bl hv], out_int rl ho⟩
  · exact ho.elim
def keyS : List (Key × D) → Option (List Str)
  | [] => some []
  | (.inr s, _) :: r => (keyS r).map (s :: ·)
  | _ :: _ => none
theorem keyS_eq : ∀ {kvs : List (Key × D)} {ss : List Str}, keyS kvs = some ss → kvs.map (·.1) = ss.map Sum.inr
  | [], _, e => by simp only [keyS] at e; cases e; rfl
  | (.inl _, _) :: r, _, e => by simp only [keyS] at e; cases e
  | (.inr s, _) :: r, _, e => by
    simp only [keyS, Option.map_eq_some_iff] at e
    obtain ⟨l, e1, rfl⟩ := e
    rw [List.map_cons, keyS_eq e1]; rfl
def sortB (M : Mem) (d : D) : Option (List T) := match asLT M d with
  | some ts => match asIs ts with
    | some ns => if ns.length < 64 then some ((sortI ns).map .int) else none
    | none => match asSs ts with
      | some ss => if ss.length < 64 then some ((sortS ss).map .str) else none
      | none => none
  | none => match (asK M d).bind keyS with
    | some ss => if ss.length < 64 then some ((sortS ss).map .str) else none
    | none => none
def fSorted : FN := F1 fun d M => match sortB M d with | some ts => .ok (.t (.lst ts)) M | none => .bad
def rSortedA (K : PySem.W.Frag) : List V → Hp → VK → Prop := fun xs H Q => rSorted K xs H Q ∨ rSortedS K xs H Q ∨
  ∃ (a : Addr) (kvs : List (Key × V)) (ks : List Str), xs = [.ref a] ∧ Rd H a (.dK kvs) ∧ kvs.map (·.1) = ks.map Sum.inr ∧ ks.length < 64 ∧ ∀ ys p, ys.Perm ks → PyProof.Rows.sortedS ys = true → H p = none → Q (.ref p) (upd H p (.lst (ys.map V.str)))
theorem cs_sorted : CallS C (rSortedA C.K) fSorted := by
  refine cs1 fun al ρ M σ H d v Q rl hv ho => ?_
  split at ho
  · rename_i ts ht
    unfold sortB at ht
    split at ht
    · rename_i t0 e0
      split at ht
      · rename_i ns e1
        split at ht
        · rename_i hz
          cases ht
          obtain ⟨a, rfl, g⟩ := is_of (bs := ns) rl.toCells hv (by rw [e0]; exact e1)
          refine .inl ⟨a, ns, rfl, g, hz, fun ns' p pm pw hp => ?_⟩
          rw [sortI_eq pm pw]
          exact out_newL rl ho (ofIs _) hp
        · cases ht
      · split at ht
        · rename_i ns e1
          split at ht
          · rename_i hz
            cases ht
            obtain ⟨a, rfl, g⟩ := ss_of (bs := ns) rl.toCells hv (by rw [e0]; exact e1)
            refine .inr (.inl ⟨a, ns, rfl, g, hz, fun ns' p pm pw hp => ?_⟩)
            rw [sortS_eq pm pw]
            exact out_newL rl ho (ofSs _) hp
          · cases ht
        · cases ht
    · split at ht
      · rename_i ss e1
        split at ht
        · rename_i hz
          cases ht
          cases e2 : asK M d with
          | none => rw [e2] at e1; cases e1
          | some kvs =>
            rw [e2] at e1
            obtain ⟨a, ws, rfl, h1, h2⟩ := asK_rep rl.toCells hv e2
            refine .inr (.inr ⟨a, ws, ss, rfl, h1, by rw [h2.keys]; exact keyS_eq e1, hz, fun ys p pm pw hp => ?_⟩)
            rw [sortS_eq pm pw]
            exact out_newL rl ho (ofSs _) hp
        · cases ht
      · cases ht
  · exact ho.elim
theorem call_sortedA (hc : X.calm = true) : CallR X (.builtin "sorted") (rSortedA X.K) := cr_sorted.or (cr_sortedS.or (call_sortedD hc))
def listB (M : Mem) (d : D) : Option (List D) := match asS M d with
  | some ds => some ds
  | none => (asK M d).map fun kvs => kvs.map fun kv => .t (ofKey kv.1)
def fListC : FN := F1 fun d M => match listB M d with | some ds => .ok (.loc M.length) (M ++ [.lst ds]) | none => .bad
def fList : FN := F1 fun d M => match (listB M d).bind asTs with | some ts => .ok (.t (.lst ts)) M | none => .bad
def rListR : List V → Hp → VK → Prop := fun xs H Q => ∃ p kvs, xs = [.ref p] ∧ Rd H p (.dK kvs) ∧ ∀ q, H q = none → Q (.ref q) (upd H q (.lst (kvs.map fun kv => kV kv.1)))
theorem call_list_dR (hc : X.calm = true) : CallR X (.type "list") rListR := by
  intro pins s σ H xs us Q I r h
  obtain ⟨p, kvs, rfl, hk, q⟩ := h
  obtain ⟨u, rfl, rx⟩ := vals1 r
  cases rx
  obtain ⟨z, lo, vs, rk, hd⟩ := dk_rd I.hok hk
  obtain ⟨ep, hat⟩ := hd.dictAt
  have hl : kvs.length = vs.length := rk.length
  have hz' : vs.length ≤ sizeLine := hl ▸ z
  refine PySem.W.kdl_call (PySem.W.kdl_dict (knd := mixKind X.prog X.w) (kvs := vs) (ep := ep) lo)
    (I.ok.hd hc) hat hz' fun h' tk acc' c' hkeep hS hacc => ?_
  have hv : Vals (kvs.map fun kv => kV kv.1) acc'.toList := by
    have el : acc'.toList.length = acc'.size := Array.length_toList
    refine vals_of_at (by rw [List.length_map, el, hacc.1]; exact hl) fun j x w h1 h2 => ?_
    obtain ⟨k, y, hky, hi⟩ := hacc.2 j w ((Array.getElem?_toList ..).symm.trans h2)
    have e1 : (kvs.map (·.1))[j]? = some k := by
      rw [rk.keys, List.getElem?_map, hky]; rfl
    have e2 : ((kvs.map (·.1)).map kV)[j]? = some (kV k) := by
      rw [List.getElem?_map, e1]; rfl
    rw [List.map_map] at e2
    have e4 := e2.symm.trans h1
    cases e4
    exact keyIs_rel hi
  have hn : (kvs.map fun kv => kV kv.1).length ≤ sizeLine := by rw [List.length_map]; exact z
  refine ⟨.ref s.heap.objs.size, _, I.laid (a := s.heap.objs.size) (o := .lst (kvs.map fun kv => kV kv.1)) hkeep (Nat.le_refl _) ?_, rfl, q _ (I.hok.fresh (Nat.le_refl _))⟩
  exact ⟨hn, acc'.toList, c', hv, by rw [Array.toArray_toList]; exact hS⟩
theorem ofKeys {c : Cr} : ∀ {kvs : List (Key × D)} {ws : List (Key × V)}, RepK c kvs ws → RepL c (kvs.map fun kv => .t (ofKey kv.1)) (ws.map fun kv => kV kv.1)
  | [], _, h => by cases h; exact RepL.nil
  | (k, d) :: r, _, ⟨x, t, e, h1, h2⟩ => by subst e; exact RepL.cons (rep_key k) (ofKeys h2)
def rListA (K : PySem.W.Frag) : List V → Hp → VK → Prop := fun xs H Q => (∃ p ys, xs = [.ref p] ∧ (SqL K H p ys ∨ SqT K H p ys) ∧ ∀ l, H l = none → Q (.ref l) (upd H l (.lst ys))) ∨ rListR xs H Q
theorem call_listA (hc : X.calm = true) : CallR X (.type "list") (rListA X.K) := call_list_of.or (call_list_dR hc)
theorem list_ok {al : List Addr} {ρ : List D} {M : Mem} {σ : L2.St} {H : Hp} {d : D} {v : V} {ds : List D} {Q : VK} (rl : Rel C al ρ M σ H) (hv : Rep (C.cr al H) d v) (e : listB M d = some ds)
    (h : ∀ xs p, RepL (C.cr al H) ds xs → H p = none → Q (.ref p) (upd H p (.lst xs))) : rListA C.K [v] H Q := by
  unfold listB at e
  split at e
  · cases e
    rename_i e1
    obtain ⟨a, xs, rfl, h1, h2⟩ := asS_rep rl.toCells hv e1
    exact .inl ⟨a, xs, rfl, h1, fun l hl => h xs l h2 hl⟩
  · simp only [Option.map_eq_some_iff] at e
    obtain ⟨kvs, e1, rfl⟩ := e
    obtain ⟨a, ws, rfl, h1, h2⟩ := asK_rep rl.toCells hv e1
    exact .inr ⟨a, ws, rfl, h1, fun q hq => h _ q (ofKeys h2) hq⟩
theorem cs_list : CallS C (rListA C.K) fList := by
  refine cs1 fun al ρ M σ H d v Q rl hv ho => ?_
  split at ho
  · rename_i ts ht
    cases e1 : listB M d with
    | none => rw [e1] at ht; cases ht
    | some ds =>
      rw [e1] at ht
      exact list_ok rl hv e1 fun xs p hx hp => out_newL rl ho (hx.asT ht) hp
  · exact ho.elim
theorem cs_listC : CallS C (rListA C.K) fListC := by
  refine cs1 fun al ρ M σ H d v Q rl hv ho => ?_
  split at ho
  · rename_i ds e1
    exact list_ok rl hv e1 fun xs p hx hp => out_cellL rl ho hx hp
  · exact ho.elim
def fTuple : FN := F1 fun d M => match (asS M d).bind asTs with | some ts => .ok (.t (.tup ts)) M | none => .bad
theorem cs_tuple : CallS C (fun xs H Q => ∃ p ys, xs = [.ref p] ∧ ((SqL C.K H p ys ∧ ∀ l, H l = none → Q (.ref l) (upd H l (.tup ys))) ∨ (SqT C.K H p ys ∧ Q (.ref p) H))) fTuple := by
  refine cs1 fun al ρ M σ H d v Q rl hv ho => ?_
  split at ho
  · rename_i ts ht
    cases e1 : asS M d with
    | none => rw [e1] at ht; cases ht
    | some ds =>
      rw [e1] at ht
      unfold asS at e1
      split at e1
      · cases e1
        rw [Option.bind_some, asTs_map] at ht
        cases ht
        obtain ⟨a, xs, rfl, h1, h2⟩ := rep_tup hv
        exact ⟨a, xs, rfl, .inr ⟨h1, Out.here ho rl _ hv⟩⟩
      · obtain ⟨a, xs, rfl, h1, h2⟩ := asL_rep rl.toCells hv e1
        exact ⟨a, xs, rfl, .inl ⟨SqL.of h1, fun l hl => out_newT rl ho (h2.asT ht) hl⟩⟩
  · exact ho.elim
def fDict : FN := F1 fun d M => match (asK M d).bind asTk with | some ts => .ok (.t (.dct ts)) M | none => .bad
def fDictC : FN := F1 fun d M => match asK M d with | some kvs => .ok (.loc M.length) (M ++ [.dct kvs]) | none => .bad
theorem cs_dict : CallS C (fun xs H Q => ∃ (a : Addr) (kvs : List (Key × V)), xs = [.ref a] ∧ Rd H a (.dK kvs) ∧ ∀ p, H p = none → Q (.ref p) (upd H p (.dK kvs))) fDict := by
  refine cs1 fun al ρ M σ H d v Q rl hv ho => ?_
  split at ho
  · rename_i ts ht
    cases e1 : asK M d with
    | none => rw [e1] at ht; cases ht
    | some ds =>
      rw [e1] at ht
      obtain ⟨a, ws, rfl, h1, h2⟩ := asK_rep rl.toCells hv e1
      rw [asTk_eq ht] at h2
      exact ⟨a, ws, rfl, h1, fun p hp => out_newK rl ho (RepK.toT h2) hp⟩
  · exact ho.elim
theorem cs_dictC : CallS C (fun xs H Q => ∃ (a : Addr) (kvs : List (Key × V)), xs = [.ref a] ∧ Rd H a (.dK kvs) ∧ ∀ p, H p = none → Q (.ref p) (upd H p (.dK kvs))) fDictC := by
  refine cs1 fun al ρ M σ H d v Q rl hv ho => ?_
  split at ho
  · rename_i ts e1
    obtain ⟨a, ws, rfl, h1, h2⟩ := asK_rep rl.toCells hv e1
    exact ⟨a, ws, rfl, h1, fun p hp => out_cellK rl ho h2 hp⟩
  · exact ho.elim
abbrev FRg := List D → Mem → R (Int × Int)
def rg1 (f : FE) : FRg := fun ρ M => (f ρ M).bind fun d M1 => match d with | .t (.int n) => .ok (0, n) M1 | _ => .bad
def rg2 (f g : FE) : FRg := fun ρ M => (f ρ M).bind fun d M1 => (g ρ M1).bind fun e M2 => match d, e with | .t (.int i), .t (.int j) => .ok (i, j) M2 | _, _ => .bad
def tRg (C : Fc) (f : FRg) : L2.St → Hp → (Int → Int → Hp → Prop) → Prop := fun σ H Q => ∃ al ρ M, Rel C al ρ M σ H ∧ Out C al H (f ρ M) (fun ij al' M' H' => Rel C al' ρ M' σ H' → Q ij.1 ij.2 H')
def PRgD (C : Fc) (X : Cx) (e : Expr) (f : FRg) : Prop := PRg X e (tRg C f)
theorem prg_1D {a : Expr} {f : FE} {p pos : Pos} (hg : Gl X "range") (hm : X.mg "range" = none) (ha : PD C X a f) (na : starEach [a] X.env = (false, eval a X.env) :: starEach [] X.env := by rfl) : PRgD C X (.Call (.Name "range" p) [a] [] pos) (rg1 f) := by
  intro pins s σ H Q I h
  refine prg_1 hg hm ha na pins s σ H Q I ?_
  obtain ⟨al, ρ, M, rl, h⟩ := h
  refine ⟨al, ρ, M, rl, Out.mono (Out.bind h) fun d al1 M1 H1 s1 h1 r1 x hx => ?_⟩
  split at h1
  · exact ⟨_, rep_int hx, Out.here h1 r1⟩
  · exact h1.elim
theorem prg_2D {a b : Expr} {f g : FE} {p pos : Pos} (hg : Gl X "range") (hm : X.mg "range" = none) (ha : PD C X a f) (hb : PD C X b g) (na : starEach [a, b] X.env = (false, eval a X.env) :: starEach [b] X.env := by rfl) (nb : starEach [b] X.env = (false, eval b X.env) :: starEach [] X.env := by rfl) (nc : (backTo pos (starEach [b] X.env)).any (·.1) = false := by rfl) : PRgD C X (.Call (.Name "range" p) [a, b] [] pos) (rg2 f g) := by
  intro pins s σ H Q I h
  refine prg_2 hg hm ha hb na nb nc pins s σ H Q I ?_
  obtain ⟨al, ρ, M, rl, h⟩ := h
  refine ⟨al, ρ, M, rl, Out.mono (Out.bind h) fun d al1 M1 H1 s1 h1 r1 x hx => ?_⟩
  refine ⟨al1, ρ, M1, r1, Out.mono (Out.bind h1) fun e al2 M2 H2 s2 h2 r2 y hy => ?_⟩
  split at h2
  · exact ⟨_, _, rep_int hx, rep_int hy, Out.here h2 r2⟩
  · exact h2.elim
def rgT (a b : Int) : List Int := (List.range (b - a).toNat).map fun i => a + (i : Nat)
theorem rgV_eq (a b : Int) : rgV a b = (rgT a b).map V.int := by
  unfold rgV rgT
  rw [List.map_map]; rfl
def rgOk (a b : Int) : Bool := decide (-(2 ^ 62) ≤ a ∧ a < 2 ^ 62 ∧ -(2 ^ 62) ≤ b ∧ b < 2 ^ 62 ∧ (b - a).toNat ≤ 2 ^ 24)
def eListRg (f : FRg) : FE := fun ρ M => (f ρ M).bind fun ij M1 => if rgOk ij.1 ij.2 = true then .ok (.t (.lst ((rgT ij.1 ij.2).map .int))) M1 else .bad
theorem pd_listRg {e : Expr} {f : FRg} {p pos : Pos} (hc : X.calm = true) (hg : Gl X "list") (hm : X.mg "list" = none) (he : PRgD C X e f) (na : starEach [e] X.env = (false, eval e X.env) :: starEach [] X.env := by rfl) : PD C X (.Call (.Name "list" p) [e] [] pos) (eListRg f) := by
  refine PE.wk (pe_listRg hc hg hm he na) ?_
  rintro σ H Q ⟨al, ρ, M, rl, h⟩
  refine ⟨al, ρ, M, rl, Out.mono (Out.bind h) fun ij al1 M1 H1 s1 h1 r1 => ?_⟩
  split at h1
  · rename_i hz
    have hz' := of_decide_eq_true hz
    refine ⟨hz', fun q hq => ?_⟩
    rw [rgV_eq]
    exact out_newL r1 h1 (ofIs _) hq
  · exact h1.elim
/-- the kind of a value: a built-in type's name, or a class -/
def kindB (M : Mem) : D → Option (String ⊕ Nat)
  | .und => none
  | .t .non => some (.inl "NoneType")
  | .t (.bl _) => some (.inl "bool")
  | .t (.int _) => some (.inl "int")
  | .t (.str _) => some (.inl "str")
  | .t (.lst _) => some (.inl "list")
  | .t (.tup _) => some (.inl "tuple")
  | .t (.dct _) => some (.inl "dict")
  | .t (.ins k _) => some (.inr k)
  | .t (.scr _) => none
  | .loc n => match M[n]? with
    | some (.lst _) => some (.inl "list")
    | some (.dct _) => some (.inl "dict")
    | some (.ins k _) => some (.inr k)
    | none => none
/-- what is wanted of a class so that its instances are asked rightly -/
structure InsF (K : PySem.W.Frag) (a : Addr) : Prop where
  cl : Cls K a
  ha : PySem.W.findIn K (.ref a) "__class__" = some (some (.builtin "object.__class__"))
  hn : PySem.W.specialIn K (.builtin "object.__class__") "__get__" = some (some (.builtin "getset_descriptor.__get__"))
  htk : PySem.W.takesIn K (.builtin "object.__class__") = some true
  hm : PySem.W.mroIn K a (.type "object") = some true
def kindV (C : Fc) : String ⊕ Nat → Value
  | .inl s => .type s
  | .inr k => .ref (C.cls k)
theorem kind_ty {al : List Addr} {M : Mem} {H : Hp} (r : Cells C al M H) {nc : Nat} (hI : ∀ k, k < nc → InsF C.K (C.cls k)) {d : D} {v : V} {kd : String ⊕ Nat} (h : Rep (C.cr al H) d v) (e : kindB M d = some kd) (hk : ∀ k, kd = .inr k → k < nc) : TyX C.K H v (kindV C kd) := by
  have mk : ∀ {a : Addr} {k : Nat} {dx : Addr} {fs : List (Str × V)}, kd = .inr k → H a = some (.ins (C.cls k) dx fs) → TyX C.K H (.ref a) (kindV C kd) := fun {a k dx fs} e1 e2 => by
    have f := hI k (hk k e1)
    subst e1
    exact .base (.ins e2 f.cl f.ha f.hn f.htk f.hm)
  cases d with
  | und => cases e
  | t x =>
    cases x <;> simp only [kindB] at e <;> cases e <;> simp only [Rep, RepT] at h
    · subst h; exact .base .non
    · subst h; exact .base (.bl _)
    · subst h; exact .base (.int _)
    · subst h; exact .base (.str _)
    · obtain ⟨a, xs, rfl, h1, _⟩ := h; exact .base (.lst h1)
    · obtain ⟨a, xs, rfl, h1, _⟩ := h
      rcases h1 with (h1 | ⟨ob, h1⟩) | ⟨o, its, n, h1, h2, _⟩
      · exact .base (.tup h1)
      · exact .fTuple h1
      · exact .kTuple h1 h2
    · obtain ⟨a, xs, rfl, h1, _⟩ := h
      rcases h1 with h1 | ⟨ob, h1⟩
      · exact .base (.dK h1)
      · exact .fDict h1
    · obtain ⟨a, dx, xs, rfl, h1, _⟩ := h
      exact mk rfl h1
  | loc n =>
    obtain ⟨a, rfl, ha⟩ := h
    simp only [kindB] at e
    split at e
    · rename_i em
      cases e
      obtain ⟨o, e1, xs, rfl, _⟩ := r.cell n a _ ha em
      exact .base (.lst e1)
    · rename_i em
      cases e
      obtain ⟨o, e1, xs, rfl, _⟩ := r.cell n a _ ha em
      exact .base (.dK e1)
    · rename_i em
      cases e
      obtain ⟨o, e1, dx, xs, rfl, _⟩ := r.cell n a _ ha em
      exact mk rfl e1
    · cases e
/-- isinstance(x, T), by a table of answers -/
def eIsi (q : String ⊕ Nat → Option Bool) (f : FE) : FE := fun ρ M => (f ρ M).bind fun d M1 => match (kindB M1 d).bind q with | some b => .ok (.t (.bl b)) M1 | none => .bad
/-- the class asked: a built-in type, an own class -/
theorem pd_isi (hK : X.K = C.K) {nc : Nat} (hI : ∀ k, k < nc → InsF C.K (C.cls k)) {a c : Expr} {f : FE} {q : String ⊕ Nat → Option Bool} {cv : V} {cu : Value} (ha : PD C X a f) (hc : PE X c (tC cv)) (hcv : ClsV cv cu) (hq : ∀ kd b, q kd = some b → (∀ k, kd = .inr k → k < nc) ∧ PySem.W.kitOne C.K (kindV C kd) cu = some b)
    (hg : Gl X "isinstance") (hm : X.mg "isinstance" = none) (he : starEach [a, c] X.env = (false, eval a X.env) :: starEach [c] X.env := by rfl) (hc1 : starEach [c] X.env = (false, eval c X.env) :: starEach [] X.env := by rfl) (hpl : (backTo pos (starEach [c] X.env)).any (·.1) = false := by rfl) :
    PD C X (.Call (.Name "isinstance" p) [a, c] [] pos) (eIsi q f) := by
  refine PE.wk (pe_callB call_isi hg hm PyProof.Rows.boot_isinstance (pa_cons ha (pa_cons hc pa_nil hc1) he) (by decide) (by decide) he hpl) ?_
  rintro σ H Q ⟨al, ρ, M, rl, h⟩
  refine ⟨al, ρ, M, rl, Out.mono (Out.bind h) fun d al1 M1 H1 s1 h1 r1 x hx => ?_⟩
  show rIsi X.K [x, cv] H1 Q
  split at h1
  · rename_i b hb
    cases ek : kindB M1 d with
    | none => rw [ek] at hb; cases hb
    | some kd =>
      rw [ek] at hb
      obtain ⟨g1, g2⟩ := hq kd b hb
      rw [hK]
      exact ⟨x, cv, _, cu, b, rfl, hcv, kind_ty r1.toCells hI hx ek g1, g2, out_bl r1 h1⟩
  · exact h1.elim
end
end LL
namespace LL
open PySem L2
/-- the promise of a def with n parameters that does F -/
def spOf (K : PySem.W.Frag) (cls xcl : Nat → Addr) (n : Nat) (F : FN) : Sp := fun vs H Q E => ∃ (reg : Addr → Prop) (al : List Addr) (M : Mem) (ds : List D), ds.length = n ∧ Cells ⟨K, cls, xcl, reg, E⟩ al M H ∧ RepL (Fc.cr ⟨K, cls, xcl, reg, E⟩ al H) ds vs ∧
  Out ⟨K, cls, xcl, reg, E⟩ al H (F ds M) (fun d al' M' H' => Cells ⟨K, cls, xcl, reg, E⟩ al' M' H' → ∀ v, Rep (Fc.cr ⟨K, cls, xcl, reg, E⟩ al' H') d v → Q v H')
/-- the callee's cells k, k + 1, .. are the caller's m, m + 1, .. -/
def D.sh (k m : Nat) : D → D
  | .loc n => .loc (if n < k then n else n - k + m)
  | d => d
def Cel.sh (k m : Nat) : Cel → Cel
  | .lst ds => .lst (ds.map (·.sh k m))
  | .dct kvs => .dct (kvs.map fun kv => (kv.1, kv.2.sh k m))
  | .ins c fs => .ins c (fs.map fun kv => (kv.1, kv.2.sh k m))
def backM (k : Nat) (M M1 : Mem) : Mem := (M1.take k).map (·.sh k M.length) ++ M.drop k ++ (M1.drop k).map (·.sh k M.length)
/-- the caller hands over its first k cells -/
def callK (n k : Nat) (F : FN) : FN := fun ds M =>
  if ds.length = n ∧ k ≤ M.length ∧ ds.all (·.below k) = true ∧ (M.take k).all (·.below k) = true then
    match F ds (M.take k) with
    | .ok d M1 => if k ≤ M1.length then .ok (d.sh k M.length) (backM k M M1) else .bad
    | .exc e M1 => if k ≤ M1.length then .exc e (backM k M M1) else .bad
    | .bad => .bad
  else .bad
section
variable {C : Fc} {al be : List Addr} {ρ : List D} {M M1 : Mem} {σ : L2.St} {H H1 : Hp} {k : Nat}
/-- the callee's context: what the caller keeps apart is not in its region -/
def Fc.callee (C : Fc) (al : List Addr) (k : Nat) : Fc := { C with reg := fun a => C.reg a ∧ a ∉ al.drop k }
theorem le_in (nd : al.Nodup) : LeT (C.cr al H) ((C.callee al k).cr (al.take k) H) := by
  have ok : ∀ a, (C.cr al H).ok a → ((C.callee al k).cr (al.take k) H).ok a := fun a h => ⟨fun z => h.1 (List.mem_of_mem_take z), h.2, fun z => h.1 (List.mem_of_mem_drop z)⟩
  exact ⟨rfl, rfl, fun a _ e o => ⟨e, ok a o⟩, fun a _ e o => ⟨e, ok a o⟩, fun a _ _ _ e o => ⟨e, ok a o⟩, fun a _ e => e, fun a _ e o => ⟨e, ok a o⟩⟩
theorem Rep.into (nd : al.Nodup) {d : D} {v : V} (h : Rep (C.cr al H) d v) (hb : d.below k = true) : Rep ((C.callee al k).cr (al.take k) H) d v := by
  cases d with
  | und => exact h
  | t x => exact RepT.le (le_in nd) h
  | loc n =>
    obtain ⟨a, e, h1⟩ := h
    refine ⟨a, e, ?_⟩
    have hn : n < k := of_decide_eq_true hb
    show (al.take k)[n]? = some a
    rw [List.getElem?_take_of_lt hn]; exact h1
theorem RepL.into (nd : al.Nodup) : ∀ {ds : List D} {vs : List V}, RepL (C.cr al H) ds vs → ds.all (·.below k) = true → RepL ((C.callee al k).cr (al.take k) H) ds vs
  | [], _, h, _ => h
  | _ :: _, _, ⟨x, r, e, h1, h2⟩, hb => by
    rw [List.all_cons, Bool.and_eq_true] at hb
    exact ⟨x, r, e, h1.into nd hb.1, RepL.into nd h2 hb.2⟩
theorem RepK.into (nd : al.Nodup) : ∀ {ds : List (Key × D)} {vs : List (Key × V)}, RepK (C.cr al H) ds vs → ds.all (fun kv => kv.2.below k) = true → RepK ((C.callee al k).cr (al.take k) H) ds vs
  | [], _, h, _ => h
  | _ :: _, _, ⟨x, r, e, h1, h2⟩, hb => by
    rw [List.all_cons, Bool.and_eq_true] at hb
    exact ⟨x, r, e, h1.into nd hb.1, RepK.into nd h2 hb.2⟩
theorem RepF.into (nd : al.Nodup) : ∀ {ds : List (Str × D)} {vs : List (Str × V)}, RepF (C.cr al H) ds vs → ds.all (fun kv => kv.2.below k) = true → RepF ((C.callee al k).cr (al.take k) H) ds vs
  | [], _, h, _ => h
  | _ :: _, _, ⟨x, r, e, h1, h2⟩, hb => by
    rw [List.all_cons, Bool.and_eq_true] at hb
    exact ⟨x, r, e, h1.into nd hb.1, RepF.into nd h2 hb.2⟩
theorem Cells.into (r : Cells C al M H) (hk : k ≤ M.length) (hb : (M.take k).all (·.below k) = true) : Cells (C.callee al k) (al.take k) (M.take k) H := by
  refine ⟨by rw [List.length_take, List.length_take, r.len], (List.take_sublist k al).nodup r.nd, fun n a d h1 h2 => ?_, fun a h => ⟨r.dom a h, fun z => ?_⟩⟩
  · have hn : n < k := by have := (List.getElem?_eq_some_iff.1 h1).1; rw [List.length_take] at this; omega
    have hd := List.all_eq_true.1 hb d (List.mem_of_getElem? h2)
    rw [List.getElem?_take_of_lt hn] at h1 h2
    obtain ⟨o, e1, e2⟩ := r.cell n a d h1 h2
    refine ⟨o, e1, ?_⟩
    cases d with
    | lst ds => obtain ⟨xs, e, h⟩ := e2; exact ⟨xs, e, RepL.into r.nd h hd⟩
    | dct ds => obtain ⟨xs, e, h⟩ := e2; exact ⟨xs, e, RepK.into r.nd h hd⟩
    | ins c fs => obtain ⟨dx, xs, e, h⟩ := e2; exact ⟨dx, xs, e, RepF.into r.nd h hd⟩
  · obtain ⟨o, e, _⟩ := r.some (List.mem_of_mem_drop z)
    rw [h] at e; cases e
/-- back to the caller -/
theorem le_out : LeT ((C.callee al k).cr (al.take k ++ be) H1) (C.cr (al ++ be) H1) := by
  have ok : ∀ a, ((C.callee al k).cr (al.take k ++ be) H1).ok a → (C.cr (al ++ be) H1).ok a := fun a h => by
    refine ⟨fun z => ?_, h.2.1⟩
    have h1 : a ∉ al.take k ++ be := h.1
    rw [List.mem_append, not_or] at h1
    rcases List.mem_append.1 z with z | z
    · rw [← List.take_append_drop k al, List.mem_append] at z
      exact z.elim h1.1 h.2.2
    · exact h1.2 z
  exact ⟨rfl, rfl, fun a _ e o => ⟨e, ok a o⟩, fun a _ e o => ⟨e, ok a o⟩, fun a _ _ _ e o => ⟨e, ok a o⟩, fun a _ e => e, fun a _ e o => ⟨e, ok a o⟩⟩
theorem loc_out (hk : k ≤ al.length) {n : Nat} {a : Addr} (h : (al.take k ++ be)[n]? = some a) : (al ++ be)[if n < k then n else n - k + al.length]? = some a := by
  have hl : (al.take k).length = k := by rw [List.length_take]; omega
  by_cases hn : n < k
  · rw [if_pos hn]
    rw [List.getElem?_append_left (by rw [hl]; exact hn), List.getElem?_take_of_lt hn] at h
    rw [List.getElem?_append_left (by omega)]; exact h
  · rw [if_neg hn]
    rw [List.getElem?_append_right (by rw [hl]; omega), hl] at h
    rw [List.getElem?_append_right (by omega)]
    rw [show n - k + al.length - al.length = n - k by omega]; exact h
theorem Rep.out (hk : k ≤ al.length) {d : D} {v : V} (h : Rep ((C.callee al k).cr (al.take k ++ be) H1) d v) : Rep (C.cr (al ++ be) H1) (d.sh k al.length) v := by
  cases d with
  | und => exact h
  | t x => exact RepT.le le_out h
  | loc n =>
    obtain ⟨a, e, h1⟩ := h
    exact ⟨a, e, loc_out hk h1⟩
theorem RepL.out (hk : k ≤ al.length) : ∀ {ds : List D} {vs : List V}, RepL ((C.callee al k).cr (al.take k ++ be) H1) ds vs → RepL (C.cr (al ++ be) H1) (ds.map (·.sh k al.length)) vs
  | [], _, h => h
  | _ :: _, _, ⟨x, r, e, h1, h2⟩ => ⟨x, r, e, h1.out hk, RepL.out hk h2⟩
theorem RepK.out (hk : k ≤ al.length) : ∀ {ds : List (Key × D)} {vs : List (Key × V)}, RepK ((C.callee al k).cr (al.take k ++ be) H1) ds vs → RepK (C.cr (al ++ be) H1) (ds.map fun kv => (kv.1, kv.2.sh k al.length)) vs
  | [], _, h => h
  | _ :: _, _, ⟨x, r, e, h1, h2⟩ => ⟨x, r, e, h1.out hk, RepK.out hk h2⟩
theorem RepF.out (hk : k ≤ al.length) : ∀ {ds : List (Str × D)} {vs : List (Str × V)}, RepF ((C.callee al k).cr (al.take k ++ be) H1) ds vs → RepF (C.cr (al ++ be) H1) (ds.map fun kv => (kv.1, kv.2.sh k al.length)) vs
  | [], _, h => h
  | _ :: _, _, ⟨x, r, e, h1, h2⟩ => ⟨x, r, e, h1.out hk, RepF.out hk h2⟩
theorem CellO.out (hk : k ≤ al.length) {d : Cel} {o : HO} (h : CellO ((C.callee al k).cr (al.take k ++ be) H1) d o) : CellO (C.cr (al ++ be) H1) (d.sh k al.length) o := by
  cases d with
  | lst ds => obtain ⟨xs, e, h⟩ := h; exact ⟨xs, e, RepL.out hk h⟩
  | dct ds => obtain ⟨xs, e, h⟩ := h; exact ⟨xs, e, RepK.out hk h⟩
  | ins c fs => obtain ⟨dx, xs, e, h⟩ := h; exact ⟨dx, xs, e, RepF.out hk h⟩
theorem Stp.out (s : Stp (al.take k) H (al.take k ++ be) H1) (r : Cells C al M H) : Stp al H (al ++ be) H1 := by
  obtain ⟨be', e, nb⟩ := s.pre
  rw [List.append_cancel_left e]
  exact ⟨⟨be', rfl, nb⟩, fun a o ha e => s.keep a o (fun z => ha (List.mem_of_mem_take z)) e, s.tup, s.dom⟩
theorem Cells.out (r : Cells C al M H) (hk : k ≤ M.length) (s : Stp (al.take k) H (al.take k ++ be) H1) (c : Cells (C.callee al k) (al.take k ++ be) M1 H1) (hk1 : k ≤ M1.length) : Cells C (al ++ be) (backM k M M1) H1 := by
  have hal : k ≤ al.length := by rw [r.len]; exact hk
  have hl : (al.take k).length = k := by rw [List.length_take]; omega
  have hlen : k + be.length = M1.length := by rw [← c.len, List.length_append, hl]
  obtain ⟨be', eb, nb⟩ := s.pre
  have eb' := List.append_cancel_left eb
  subst eb'
  have ebm : M.length = al.length := r.len.symm
  have so := s.out r
  have l1 : ((M1.take k).map (·.sh k M.length)).length = k := by rw [List.length_map, List.length_take]; omega
  refine ⟨?_, ?_, fun n a d h1 h2 => ?_, fun a h => r.dom a (so.back h)⟩
  · unfold backM
    rw [List.length_append, List.length_append, List.length_append, l1, List.length_drop, List.length_map, List.length_drop, r.len]; omega
  · refine List.nodup_append.2 ⟨r.nd, ?_, fun x hx y hy e => ?_⟩
    · exact (List.nodup_append.1 c.nd).2.1
    · subst e
      obtain ⟨o, e1, _⟩ := r.some hx
      rw [nb x hy] at e1; cases e1
  · unfold backM at h2
    by_cases hn : n < k
    · rw [List.append_assoc, List.getElem?_append_left (by rw [l1]; exact hn), List.getElem?_map, List.getElem?_take_of_lt hn] at h2
      rw [List.getElem?_append_left (by omega)] at h1
      cases em : M1[n]? with
      | none => rw [em] at h2; cases h2
      | some c0 =>
        rw [em] at h2
        cases h2
        obtain ⟨o, e1, e2⟩ := c.cell n a c0 (by rw [List.getElem?_append_left (by rw [hl]; exact hn), List.getElem?_take_of_lt hn]; exact h1) em
        exact ⟨o, e1, by rw [ebm]; exact e2.out hal⟩
    · by_cases hm : n < al.length
      · rw [List.append_assoc, List.getElem?_append_right (by rw [l1]; omega), l1, List.getElem?_append_left (by rw [List.length_drop]; omega), List.getElem?_drop, show k + (n - k) = n by omega] at h2
        rw [List.getElem?_append_left hm] at h1
        obtain ⟨o, e1, e2⟩ := r.cell n a d h1 h2
        refine ⟨o, s.keep a o (fun z => ?_) e1, e2.le so.le⟩
        obtain ⟨j, hj, ej⟩ := List.getElem_of_mem z
        rw [List.length_take] at hj
        have e3 : al[j]? = Option.some a := by
          rw [← ej, List.getElem_take]
          exact List.getElem?_eq_getElem (by omega)
        have := nodup_get r.nd h1 e3
        omega
      · rw [List.getElem?_append_right (by rw [List.length_append, l1, List.length_drop]; omega), List.length_append, l1, List.length_drop, List.getElem?_map, List.getElem?_drop] at h2
        rw [List.getElem?_append_right (by omega)] at h1
        have en : k + (n - (k + (M.length - k))) = k + (n - al.length) := by omega
        rw [en] at h2
        cases em : M1[k + (n - al.length)]? with
        | none => rw [em] at h2; cases h2
        | some c0 =>
          rw [em] at h2
          cases h2
          obtain ⟨o, e1, e2⟩ := c.cell (k + (n - al.length)) a c0 (by rw [List.getElem?_append_right (by rw [hl]; omega), hl, show k + (n - al.length) - k = n - al.length by omega]; exact h1) em
          exact ⟨o, e1, by rw [ebm]; exact e2.out hal⟩
theorem Rel.out (r : Rel C al ρ M σ H) (hk : k ≤ M.length) (s : Stp (al.take k) H (al.take k ++ be) H1) (c : Cells (C.callee al k) (al.take k ++ be) M1 H1) (hk1 : k ≤ M1.length) : Rel C (al ++ be) ρ (backM k M M1) σ H1 :=
  { r.toCells.out hk s c hk1 with
    sl := r.sl
    slot := fun i d h hu => by
      obtain ⟨v, h1, h2⟩ := r.slot i d h hu
      exact ⟨v, h1, Rep.le (s.out r.toCells).le h2⟩ }
theorem XAt.out {e : Xn} {od : Option Addr} (h : XAt ((C.callee al k).cr (al.take k ++ be) H1) e od) : XAt (C.cr (al ++ be) H1) e od := by
  cases od with
  | none => exact h
  | some d =>
    obtain ⟨ws, h1, h2⟩ := h
    exact ⟨ws, h1, RepTf.le le_out h2⟩
/-- THE CALL: the caller's data fulfil the callee's promise -/
theorem call_ok {n : Nat} {F : FN} {ds : List D} {vs : List V} {Q : VK} (r : Rel C al ρ M σ H) (hv : RepL (C.cr al H) ds vs) (h : Out C al H (callK n k F ds M) (KE C ρ σ Q)) : spOf C.K C.cls C.xcl n F vs H Q C.E := by
  unfold callK at h
  split at h
  · rename_i hz
    obtain ⟨hn, hk, hb1, hb2⟩ := hz
    refine ⟨(C.callee al k).reg, al.take k, M.take k, ds, hn, r.toCells.into hk hb2, hv.into r.nd hb1, ?_⟩
    show Out (C.callee al k) (al.take k) H (F ds (M.take k)) _
    cases e : F ds (M.take k) with
    | bad => rw [e] at h; exact h.elim
    | exc x M1 =>
      rw [e] at h
      intro al' H' od s c hx
      obtain ⟨be', eb, _⟩ := s.pre
      subst eb
      dsimp only at h
      split at h
      · rename_i hk1
        exact h _ H' od (s.out r.toCells) (r.toCells.out hk s c hk1) hx.out
      · exact h.elim
    | ok d M1 =>
      rw [e] at h
      intro al' H' s c v hv'
      obtain ⟨be', eb, _⟩ := s.pre
      subst eb
      dsimp only at h
      split at h
      · rename_i hk1
        have hal : k ≤ al.length := by rw [r.len]; exact hk
        refine h _ H' (s.out r.toCells) (r.out hk s c hk1) v ?_
        rw [← r.len]
        exact hv'.out hal
      · exact h.elim
  · exact h.elim
end
section
variable {C : Fc} {X : Cx} {k lv : Nat} {x : Str} {e : Expr} {es : List Expr} {p pos : Pos} {fs : FA} {F : FN} {CXv : CXT} {f : Addr} {fd : FuncData} {ps : List Str} {n : Nat}
/-- f(e, ..); dts: the defaults that fill up -/
def eFn (n k : Nat) (F : FN) (dts : List T) (fs : FA) : FE := fun ρ M => (fs ρ M).bind fun ds M1 => callK n k F (ds ++ dts.map .t) M1
theorem tD_fn {dvs : List V} {dts : List T} (hd : ∀ c : Cr, c.K = C.K → RepTs c dts dvs) :
    ∀ σ H Q, tD C (eFn n k F dts fs) σ H Q → tCall (spOf C.K C.cls C.xcl n F) dvs C.E (tA C fs) σ H Q := by
  rintro σ H Q ⟨al, ρ, M, rl, h⟩
  refine ⟨al, ρ, M, rl, Out.mono (Out.bind h) fun ds al1 M1 H1 s1 h1 r1 vs hv => ?_⟩
  exact call_ok r1 (hv.append (RepL.ofT (hd _ rfl))) h1
theorem pd_call {dvs : List V} {dts : List T} {dus : List Value} (hK : X.K = C.K) (FO : FnOk X.prog X.w C.K X.mg X.base CXv lv f fd ps (spOf C.K C.cls C.xcl n F)) (hr : Room lv X.A) (hg : Gl X x) (hm : X.mg x = some (.ref f)) (hk : PySem.W.keepIn C.K (.ref f) = true) (hb : Binds C.K fd ps dus) (hd : Vals dvs dus) (hdt : ∀ c : Cr, c.K = C.K → RepTs c dts dvs) (hx : Passes CXv X C.E)
    (ha : PDA C X (e :: es) fs) (hdb : (x == ("__debug__" : Str)) = false := by decide) (he : starEach (e :: es) X.env = (false, eval e X.env) :: starEach es X.env := by rfl) (hpl : (backTo pos (starEach es X.env)).any (·.1) = false := by rfl) :
    PD C X (.Call (.Name x p) (e :: es) [] pos) (eFn n k F dts fs) := by
  rw [← hK] at FO hk hb
  exact PE.wk (pe_call FO hr hg hm hk hb hd hx ha hdb he hpl) (by have := tD_fn (C := C) (k := k) (F := F) (fs := fs) (n := n) hdt; rw [hK]; exact this)
def callMake (n c : Nat) (F : FN) : FN := fun ds M =>
  if ds.length + 1 = n ∧ ds.all (·.below 0) = true then
    match F (.loc 0 :: ds) [.ins c []] with
    | .ok (.t .non) (c0 :: M1) => .ok (.loc M.length) (M ++ (c0 :: M1).map (·.sh 0 M.length))
    | .exc e (c0 :: M1) => .exc e (M ++ (c0 :: M1).map (·.sh 0 M.length))
    | _ => .bad
  else .bad
def eMakeC (n c : Nat) (F : FN) (dts : List T) (fs : FA) : FE := fun ρ M => (fs ρ M).bind fun ds M1 => callMake n c F (ds ++ dts.map .t) M1
theorem Rep.below0 {al al' : List Addr} {H : Hp} {d : D} {v : V} {C C' : Fc} (L : LeT (C.cr al H) (C'.cr al' H)) (h : Rep (C.cr al H) d v) (hb : d.below 0 = true) : Rep (C'.cr al' H) d v := by
  cases d with
  | und => exact h
  | t x => exact RepT.le L h
  | loc n => simp [D.below] at hb
theorem make_ok {ds : List D} {vs : List V} {Q : VK} {al : List Addr} {ρ : List D} {M : Mem} {σ : L2.St} {H : Hp} {c : Nat} (r : Rel C al ρ M σ H) (hv : RepL (C.cr al H) ds vs) (h : Out C al H (callMake n c F ds M) (KE C ρ σ Q)) :
    ∀ x dx, H x = none → H dx = none → dx ≠ x → spOf C.K C.cls C.xcl n F (.ref x :: vs) (upd (upd H dx (.own x)) x (.ins (C.cls c) dx [])) (fun v H2 => v = .non ∧ Q (.ref x) H2) C.E := by
  intro x dx hx hdx hne
  unfold callMake at h
  split at h
  · rename_i hz
    obtain ⟨hn, hb⟩ := hz
    have c0 : Cells (C.callee al 0) (al.take 0) (M.take 0) H := r.toCells.into (Nat.zero_le _) (by simp)
    rw [List.take_zero, List.take_zero] at c0
    have r0 : Rel (C.callee al 0) [] [] [] [] H := { c0 with sl := rfl, slot := fun i d h => by simp at h }
    have r1 : Rel (C.callee al 0) [] [] [] [] (upd H dx (.own x)) := r0.new hdx
    have hx1 : upd H dx (.own x) x = none := by rw [upd_ne (fun z => hne z.symm)]; exact hx
    obtain ⟨r2, hl⟩ := r1.cell_new (d := .ins c []) (o := .ins (C.cls c) dx []) hx1 ⟨dx, [], rfl, rfl⟩
    have s1 : Stp [] H [] (upd H dx (.own x)) := stp_new r0.toCells hdx
    have s2 : Stp [] (upd H dx (.own x)) ([] ++ [x]) (upd (upd H dx (.own x)) x (.ins (C.cls c) dx [])) := stp_cell r1.toCells hx1
    have s12 := s1.trans s2
    refine ⟨(C.callee al 0).reg, [x], [.ins c []], .loc 0 :: ds, by simpa using hn, r2.toCells, RepL.cons hl ?_, ?_⟩
    · have h0 := hv.into (k := 0) r.nd hb
      rw [List.take_zero] at h0
      have : ∀ {ds : List D} {vs : List V}, RepL ((C.callee al 0).cr [] H) ds vs → ds.all (·.below 0) = true → RepL ((C.callee al 0).cr [x] (upd (upd H dx (.own x)) x (.ins (C.cls c) dx []))) ds vs := by
        intro ds
        induction ds with
        | nil => intro vs h _; exact h
        | cons d t ih =>
          rintro vs ⟨y, w, e, h1, h2⟩ hb
          rw [List.all_cons, Bool.and_eq_true] at hb
          exact ⟨y, w, e, Rep.le s12.le h1, ih h2 hb.2⟩
      exact this h0 hb
    · show Out (C.callee al 0) [x] _ (F (.loc 0 :: ds) [.ins c []]) _
      cases e : F (.loc 0 :: ds) [.ins c []] with
      | bad => rw [e] at h; exact h.elim
      | exc y M1 =>
        rw [e] at h
        intro al' H' od s cc hxx
        obtain ⟨be', eb, _⟩ := s.pre
        subst eb
        try dsimp only at h
        split at h
        · contradiction
        · rename_i c1 M2 heq
          cases heq
          have s3 : Stp (al.take 0) H (al.take 0 ++ (x :: be')) H' := by rw [List.take_zero]; exact s12.trans s
          have cc' : Cells (C.callee al 0) (al.take 0 ++ (x :: be')) (c1 :: M2) H' := by rw [List.take_zero]; exact cc
          have hxx' : XAt ((C.callee al 0).cr (al.take 0 ++ (x :: be')) H') y od := by rw [List.take_zero]; exact hxx
          have := h _ H' od (s3.out r.toCells) (by have := r.toCells.out (Nat.zero_le _) s3 cc' (Nat.zero_le _); simpa [backM] using this) hxx'.out
          exact this
        · exact h.elim
      | ok d M1 =>
        rw [e] at h
        intro al' H' s cc v hv'
        obtain ⟨be', eb, _⟩ := s.pre
        subst eb
        try dsimp only at h
        split at h
        · rename_i c1 M2 heq
          cases heq
          have s3 : Stp (al.take 0) H (al.take 0 ++ (x :: be')) H' := by rw [List.take_zero]; exact s12.trans s
          have cc' : Cells (C.callee al 0) (al.take 0 ++ (x :: be')) (c1 :: M2) H' := by rw [List.take_zero]; exact cc
          refine ⟨rep_non hv', ?_⟩
          have r3 := r.out (Nat.zero_le _) s3 cc' (Nat.zero_le _)
          refine h _ H' (s3.out r.toCells) (by simpa [backM] using r3) _ ⟨x, rfl, ?_⟩
          show (al ++ x :: be')[M.length]? = some x
          rw [← r.len]; simp
        · contradiction
        · exact h.elim
  · exact h.elim
theorem pd_makeC {c : Nat} {dvs : List V} {dts : List T} {dus : List Value} (hK : X.K = C.K) (mk : Mk C.K (C.cls c) f) (FO : FnOk X.prog X.w C.K X.mg X.base CXv lv f fd ps (spOf C.K C.cls C.xcl n F)) (hr : Room (lv + 1) X.A) (hg : Gl X x) (hm : X.mg x = some (.ref (C.cls c))) (hb : Binds C.K fd ps dus) (hd : Vals dvs dus) (hdt : ∀ c : Cr, c.K = C.K → RepTs c dts dvs) (hx : Passes CXv X C.E)
    (ha : PDA C X (e :: es) fs) (hdb : (x == ("__debug__" : Str)) = false := by decide) (he : starEach (e :: es) X.env = (false, eval e X.env) :: starEach es X.env := by rfl) (hpl : (backTo pos (starEach es X.env)).any (·.1) = false := by rfl) :
    PD C X (.Call (.Name x p) (e :: es) [] pos) (eMakeC n c F dts fs) := by
  rw [← hK] at FO hb mk
  refine PE.wk (pe_make mk FO hr hg hm hb hd hx ha hdb he hpl) ?_
  rintro σ H Q ⟨al, ρ, M, rl, h⟩
  refine ⟨al, ρ, M, rl, Out.mono (Out.bind h) fun ds al1 M1 H1 s1 h1 r1 vs hv => ?_⟩
  rw [hK]
  exact make_ok r1 (hv.append (RepL.ofT (hdt _ rfl))) h1
def eMake (n c : Nat) (F : FN) (dts : List T) (fs : FA) : FE := fun ρ M => (fs ρ M).bind fun ds M1 => unC M1.length (callMake n c F (ds ++ dts.map .t) M1)
theorem pd_make {c : Nat} {dvs : List V} {dts : List T} {dus : List Value} (hK : X.K = C.K) (mk : Mk C.K (C.cls c) f) (FO : FnOk X.prog X.w C.K X.mg X.base CXv lv f fd ps (spOf C.K C.cls C.xcl n F)) (hr : Room (lv + 1) X.A) (hg : Gl X x) (hm : X.mg x = some (.ref (C.cls c))) (hb : Binds C.K fd ps dus) (hd : Vals dvs dus) (hdt : ∀ c : Cr, c.K = C.K → RepTs c dts dvs) (hx : Passes CXv X C.E)
    (ha : PDA C X (e :: es) fs) (hdb : (x == ("__debug__" : Str)) = false := by decide) (he : starEach (e :: es) X.env = (false, eval e X.env) :: starEach es X.env := by rfl) (hpl : (backTo pos (starEach es X.env)).any (·.1) = false := by rfl) :
    PD C X (.Call (.Name x p) (e :: es) [] pos) (eMake n c F dts fs) := by
  rw [← hK] at FO hb mk
  refine PE.wk (pe_make mk FO hr hg hm hb hd hx ha hdb he hpl) ?_
  rintro σ H Q ⟨al, ρ, M, rl, h⟩
  refine ⟨al, ρ, M, rl, Out.mono (Out.bind h) fun ds al1 M1 H1 s1 h1 r1 vs hv => ?_⟩
  rw [hK]
  exact make_ok r1 (hv.append (RepL.ofT (hdt _ rfl))) (Out.unC r1 h1)
end
def fin (k : Nat) (r : R D) : R D := r.bind fun d M => if k ≤ M.length ∧ (M.take k).all (·.below k) = true then
    match d with
    | .t x => .ok (.t x) (M.take k)
    | .loc n => if n < k then .ok (.loc n) (M.take k) else match vwT M (.loc n) with | some x => .ok (.t x) (M.take k) | none => .bad
    | .und => .bad
  else .bad
/-- .. of what is raised too -/
def finX (k : Nat) (r : R D) : R D := match r with
  | .exc e M => if k ≤ M.length ∧ (M.take k).all (·.below k) = true then .exc e (M.take k) else .bad
  | r => fin k r
section
variable {C : Fc} {al : List Addr} {M : Mem} {H : Hp} {Q : VK}
theorem XAt.drop {be : List Addr} {e : Xn} {od : Option Addr} (h : XAt (C.cr (al ++ be) H) e od) : XAt (C.cr al H) e od := by
  cases od with
  | none => exact h
  | some d =>
    obtain ⟨ws, h1, h2⟩ := h
    exact ⟨ws, h1, RepTf.le le_drop h2⟩
theorem out_fin {r : R D} (c : Cells C al M H) (h : Out C al H (finX M.length r) (fun d al' M' H' => Cells C al' M' H' → ∀ v, Rep (C.cr al' H') d v → Q v H')) :
    Out C al H r (fun d al' M' H' => Cells C al' M' H' → ∀ v, Rep (C.cr al' H') d v → Q v H') := by
  cases r with
  | bad => exact h.elim
  | exc e M1 =>
    intro al' H' od s cc hx
    simp only [finX] at h
    split at h
    · rename_i hz
      obtain ⟨be, rfl, _⟩ := s.pre
      have e1 : M1.take M.length = M1.take al.length := by rw [c.len]
      refine h al H' od s.drop ?_ hx.drop
      rw [e1]
      exact cc.drop (by rw [← e1, c.len]; exact hz.2)
    · exact h.elim
  | ok d M1 =>
    intro al' H' s cc v hv
    simp only [finX, fin, R.bind] at h
    split at h
    · rename_i hz
      obtain ⟨be, rfl, nb⟩ := s.pre
      have e1 : M1.take M.length = M1.take al.length := by rw [c.len]
      have cd : Cells C al (M1.take M.length) H' := by
        rw [e1]
        exact cc.drop (by rw [← e1, c.len]; exact hz.2)
      cases d with
      | und => exact h.elim
      | t x => exact h al H' s.drop cd v (RepT.le le_drop hv)
      | loc n =>
        dsimp only at h
        split at h
        · rename_i hn
          exact h al H' s.drop cd v (Rep.drop hv (by rw [c.len]; exact decide_eq_true hn))
        · rename_i hn
          split at h
          · rename_i x hx
            obtain ⟨a, rfl, ha⟩ := hv
            have ha' : (al ++ be)[n]? = some a := ha
            have hab : a ∈ be := by
              rw [List.getElem?_append_right (by rw [c.len]; omega)] at ha'
              exact List.mem_of_getElem? ha'
            have ok : (C.cr al H').ok a := ⟨c.new (nb a hab), c.dom a (nb a hab)⟩
            refine h al H' s.drop cd _ ?_
            simp only [vwT] at hx
            split at hx
            · rename_i ds em
              simp only [Option.map_eq_some_iff] at hx
              obtain ⟨ts, e2, rfl⟩ := hx
              obtain ⟨o, e3, xs, rfl, h3⟩ := cc.cell n a _ ha em
              simp only [Rep, RepT]
              exact ⟨a, xs, rfl, e3, ok, RepTs.le le_drop (h3.asT e2)⟩
            · rename_i ds em
              simp only [Option.map_eq_some_iff] at hx
              obtain ⟨ts, e2, rfl⟩ := hx
              obtain ⟨o, e3, xs, rfl, h3⟩ := cc.cell n a _ ha em
              rw [asTk_eq e2] at h3
              simp only [Rep, RepT]
              exact ⟨a, xs, rfl, .inl e3, ok, RepTk.le le_drop (RepK.toT h3)⟩
            · rename_i kk ds em
              simp only [Option.map_eq_some_iff] at hx
              obtain ⟨ts, e2, rfl⟩ := hx
              obtain ⟨o, e3, dx, xs, rfl, h3⟩ := cc.cell n a _ ha em
              rw [asTf_eq e2] at h3
              simp only [Rep, RepT]
              exact ⟨a, dx, xs, rfl, e3, ok, RepTf.le le_drop (RepF.toT h3)⟩
            · cases hx
          · exact h.elim
    · exact h.elim
/-- a def that leaves its own cells behind -/
theorem spOf_fin {K : PySem.W.Frag} {cls xcl : Nat → Addr} {n : Nat} {F : FN} : ∀ vs H Q E, spOf K cls xcl n (fun ds M => finX M.length (F ds M)) vs H Q E → spOf K cls xcl n F vs H Q E := by
  rintro vs H Q E ⟨reg, al, M, ds, hn, c, hv, h⟩
  exact ⟨reg, al, M, ds, hn, c, hv, out_fin c h⟩
/-- what F does is told by G, where G tells -/
theorem spOf_imp {K : PySem.W.Frag} {cls xcl : Nat → Addr} {n : Nat} {F G : FN} (h : ∀ ds M, ds.length = n → G ds M = .bad ∨ F ds M = G ds M) : ∀ vs H Q E, spOf K cls xcl n G vs H Q E → spOf K cls xcl n F vs H Q E := by
  rintro vs H Q E ⟨reg, al, M, ds, hn, c, hv, ho⟩
  rcases h ds M hn with e | e
  · rw [e] at ho; exact ho.elim
  · exact ⟨reg, al, M, ds, hn, c, hv, by rw [e]; exact ho⟩
end
end LL
namespace LL
open PySem L2
inductive RS where
  | nx (ρ : List D) (M : Mem) | ret (d : D) (M : Mem) | brk (ρ : List D) (M : Mem) | cnt (ρ : List D) (M : Mem) | exc (e : Xn) (M : Mem) | bad
abbrev FS := List D → Mem → RS
def SOut (C : Fc) (al : List Addr) (H : Hp) (r : RS) (D : Ends) : Prop :=
  match r with
  | .nx ρ M => ∀ al' H' σ', Stp al H al' H' → Rel C al' ρ M σ' H' → D.nx σ' H'
  | .ret d M => ∀ al' H' v, Stp al H al' H' → Cells C al' M H' → Rep (C.cr al' H') d v → D.rt v H'
  | .brk ρ M => ∀ al' H' σ', Stp al H al' H' → Rel C al' ρ M σ' H' → D.bk σ' H'
  | .cnt ρ M => ∀ al' H' σ', Stp al H al' H' → Rel C al' ρ M σ' H' → D.ct σ' H'
  | .exc e M => XOut C al H e M
  | .bad => False
def tS (C : Fc) (f : FS) : TS := fun D σ H => ∃ al ρ M, Rel C al ρ M σ H ∧ SOut C al H (f ρ M) D
abbrev PDS (C : Fc) (X : Cx) (st : Stmt) (f : FS) : Prop := PS X st (tS C f)
abbrev PDSs (C : Fc) (X : Cx) (st : List Stmt) (f : FS) : Prop := PSs X st (tS C f)
theorem PS.wk {X : Cx} {st : Stmt} {t u : TS} (h : PS X st t) (m : ∀ D σ H, u D σ H → t D σ H) : PS X st u := ⟨fun p s σ H D I hu => h.run p s σ H D I (m D σ H hu)⟩
theorem PSs.wk {X : Cx} {st : List Stmt} {t u : TS} (h : PSs X st t) (m : ∀ D σ H, u D σ H → t D σ H) : PSs X st u := ⟨fun p s σ H D I hu => h.run p s σ H D I (m D σ H hu)⟩
section
variable {C : Fc} {X : Cx} {al al1 : List Addr} {H H1 : Hp} {r : RS} {Dn : Ends}
theorem SOut.step (s : Stp al H al1 H1) (h : SOut C al H r Dn) : SOut C al1 H1 r Dn := by
  cases r with
  | nx ρ M => exact fun al' H' σ' s' => h al' H' σ' (s.trans s')
  | ret d M => exact fun al' H' v s' => h al' H' v (s.trans s')
  | brk ρ M => exact fun al' H' σ' s' => h al' H' σ' (s.trans s')
  | cnt ρ M => exact fun al' H' σ' s' => h al' H' σ' (s.trans s')
  | exc e M => exact XOut.step s h
  | bad => exact h
def R.bindS {T : Type} (r : R T) (k : T → Mem → RS) : RS :=
  match r with
  | .ok x M => k x M
  | .exc e M => .exc e M
  | .bad => .bad
theorem SOut.bind {T : Type} {r : R T} {k : T → Mem → RS} (h : SOut C al H (r.bindS k) Dn) : Out C al H r (fun d al' M H' => SOut C al' H' (k d M) Dn) := by
  cases r with
  | ok d M => exact fun al' H' s => SOut.step s h
  | exc e M => exact h
  | bad => exact h
def sNx : FS := fun ρ M => .nx ρ M
def sSeq (f g : FS) : FS := fun ρ M => match f ρ M with | .nx ρ' M' => g ρ' M' | r => r
variable {st : Stmt} {rest : List Stmt} {f g : FS} {e : Expr} {fe : FE} {pos : Pos}
theorem pss_nilD : PDSs C X [] sNx := PSs.wk pss_nil fun D σ H ⟨al, ρ, M, rl, h⟩ => h al H σ (Stp.refl al H) rl
theorem pss_consD (h1 : PDS C X st f) (h2 : PDSs C X rest g) : PDSs C X (st :: rest) (sSeq f g) := by
  refine PSs.wk (pss_cons h1 h2) ?_
  rintro D σ H ⟨al, ρ, M, rl, h⟩
  refine ⟨al, ρ, M, rl, ?_⟩
  unfold sSeq at h
  cases e : f ρ M with
  | nx ρ' M' =>
    rw [e] at h
    exact fun al' H' σ' s r' => ⟨al', ρ', M', r', SOut.step s h⟩
  | ret d M' => rw [e] at h; exact h
  | brk ρ' M' => rw [e] at h; exact h
  | cnt ρ' M' => rw [e] at h; exact h
  | exc x M' => rw [e] at h; exact h
  | bad => rw [e] at h; exact h
theorem pss_oneD (h1 : PDS C X st f) : PDSs C X [st] f := pss_one h1
def sBrk : FS := fun ρ M => .brk ρ M
def sCnt : FS := fun ρ M => .cnt ρ M
def sBad : FS := fun _ _ => .bad
theorem ps_passD : PDS C X (.Pass pos) sNx := PS.wk ps_pass fun D σ H ⟨al, ρ, M, rl, h⟩ => h al H σ (Stp.refl al H) rl
theorem ps_breakD : PDS C X (.Break pos) sBrk := PS.wk ps_break fun D σ H ⟨al, ρ, M, rl, h⟩ => h al H σ (Stp.refl al H) rl
theorem ps_continueD : PDS C X (.Continue pos) sCnt := PS.wk ps_continue fun D σ H ⟨al, ρ, M, rl, h⟩ => h al H σ (Stp.refl al H) rl
theorem ps_neverD : PDS C X st sBad := PS.wk ps_never fun D σ H ⟨al, ρ, M, rl, h⟩ => h
theorem pss_neverD : PDSs C X rest sBad := PSs.wk pss_never fun D σ H ⟨al, ρ, M, rl, h⟩ => h
def sExpr (f : FE) : FS := fun ρ M => (f ρ M).bindS fun _ M1 => .nx ρ M1
theorem ps_exprD (he : PD C X e fe) (hs : swapsWith e none pos.line X.env = pure false := by rfl) : PDS C X (.Expr e pos) (sExpr fe) := by
  refine PS.wk (ps_expr he hs) ?_
  rintro D σ H ⟨al, ρ, M, rl, h⟩
  exact ⟨al, ρ, M, rl, Out.mono (SOut.bind h) fun d al1 M1 H1 s1 h1 r1 v hv => h1 al1 H1 σ (Stp.refl _ _) r1⟩
def sRet (f : FE) : FS := fun ρ M => (f ρ M).bindS fun d M1 => .ret d M1
theorem ps_retD (he : PD C X e fe) : PDS C X (.Return (some e) pos) (sRet fe) := by
  refine PS.wk (ps_ret he) ?_
  rintro D σ H ⟨al, ρ, M, rl, h⟩
  exact ⟨al, ρ, M, rl, Out.mono (SOut.bind h) fun d al1 M1 H1 s1 h1 r1 v hv => h1 al1 H1 v (Stp.refl _ _) r1.toCells hv⟩
def sRetN : FS := fun _ M => .ret (.t .non) M
theorem ps_retND : PDS C X (.Return none pos) sRetN := by
  refine PS.wk ps_retN ?_
  rintro D σ H ⟨al, ρ, M, rl, h⟩
  exact h al H _ (Stp.refl _ _) rl.toCells (by simp only [Rep, RepT])
def sIf (p : FT) (f g : FS) : FS := fun ρ M => (p ρ M).bindS fun b M1 => if b = true then f ρ M1 else g ρ M1
theorem ps_ifD {c : Expr} {a b : List Stmt} {p : FT} (hc : PDT C X c p) (ha : PDSs C X a f) (hb : PDSs C X b g) : PDS C X (.If c a b pos) (sIf p f g) := by
  refine PS.wk (ps_if hc ha hb) ?_
  rintro D σ H ⟨al, ρ, M, rl, h⟩
  refine ⟨al, ρ, M, rl, Out.mono (SOut.bind h) fun b al1 M1 H1 s1 h1 r1 => ?_⟩
  cases b with
  | true => exact ⟨al1, ρ, M1, r1, h1⟩
  | false => exact ⟨al1, ρ, M1, r1, h1⟩
abbrev FG := D → List D → Mem → Option (List D)
/-- what is stored: names alone -/
def KG (C : Fc) (f : FG) (g : TG) : Prop := ∀ (d : D) (v : V) (al : List Addr) (ρ ρ' : List D) (M : Mem) (σ : L2.St) (H : Hp) (Q : L2.St → Hp → Prop), Rel C al ρ M σ H → Rep (C.cr al H) d v → f d ρ M = some ρ' → (∀ σ', Rel C al ρ' M σ' H → Q σ' H) → g v σ H Q
def gN (j : Nat) : FG := fun d ρ _ => some (ρ.set j d)
theorem Rel.set {ρ : List D} {M : Mem} {σ : L2.St} {d : D} {v : V} {j : Nat} (r : Rel C al ρ M σ H) (hv : Rep (C.cr al H) d v) : Rel C al (ρ.set j d) M (σ.set j (some v)) H := by
  refine { r.toCells with sl := by rw [List.length_set, List.length_set]; exact r.sl, slot := fun i e h hu => ?_ }
  by_cases hi : j = i
  · subst hi
    have hl : j < ρ.length := by have := (List.getElem?_eq_some_iff.1 h).1; rw [List.length_set] at this; exact this
    rw [List.getElem?_set_self hl] at h
    cases h
    exact ⟨v, by rw [List.getElem?_set_self (by rw [← r.sl]; exact hl)], hv⟩
  · rw [List.getElem?_set_ne hi] at h
    obtain ⟨w, h1, h2⟩ := r.slot i e h hu
    exact ⟨w, by rw [List.getElem?_set_ne hi]; exact h1, h2⟩
theorem kg_name {j : Nat} : KG C (gN j) (gName j) := by
  intro d v al ρ ρ' M σ H Q r hv e h
  cases e
  exact h _ (r.set hv)
/-- a, b = a tuple of so many items: the names' places -/
def setN : List Nat → List T → List D → List D
  | j :: js, d :: ds, ρ => setN js ds (ρ.set j (.t d))
  | _, _, ρ => ρ
def gT (js : List Nat) : FG := fun d ρ _ => match d with
  | .t (.tup ds) => if ds.length = js.length then some (setN js ds ρ) else none
  | _ => none
def gsNames : List Nat → TGs
  | [] => gNil
  | j :: js => gCons (gName j) (gsNames js)
theorem kgs_names {M : Mem} : ∀ {js : List Nat} {ds : List T} {xs : List V} {ρ : List D} {σ : L2.St} {Q : L2.St → Hp → Prop}, Rel C al ρ M σ H → RepTs (C.cr al H) ds xs → ds.length = js.length → (∀ σ', Rel C al (setN js ds ρ) M σ' H → Q σ' H) → gsNames js xs σ H Q
  | [], [], xs, ρ, σ, Q, r, hx, _, h => by
    simp only [RepTs] at hx
    subst hx
    exact ⟨rfl, h σ r⟩
  | j :: js, d :: ds, xs, ρ, σ, Q, r, hx, hl, h => by
    simp only [RepTs] at hx
    obtain ⟨x, t, rfl, h1, h2⟩ := hx
    have hl' : ds.length = js.length := by simpa using hl
    exact ⟨x, t, rfl, kgs_names (r.set (d := .t d) h1) h2 hl' h⟩
  | [], _ :: _, _, _, _, _, _, _, hl, _ => by simp at hl
  | _ :: _, [], _, _, _, _, _, _, hl, _ => by simp at hl
theorem kg_tup {js : List Nat} : KG C (gT js) (gTup C.K js.length (gsNames js)) := by
  intro d v al ρ ρ' M σ H Q r hv e h
  unfold gT at e
  split at e
  · split at e
    · rename_i hl
      cases e
      obtain ⟨a, xs, rfl, h1, h2⟩ := rep_tup hv
      exact ⟨a, xs, rfl, h1, by rw [h2.len]; exact hl, kgs_names r h2 hl h⟩
    · cases e
  · cases e
/-- target = value -/
def sAsg (f : FE) (g : FG) : FS := fun ρ M => (f ρ M).bindS fun d M1 => match g d ρ M1 with | some ρ' => .nx ρ' M1 | none => .bad
theorem tS_asg {fg : FG} {tg : TG} (hg : KG C fg tg) {te : TE} (ht : ∀ σ H Q, tD C fe σ H Q → te σ H Q) : ∀ Dn σ H, tS C (sAsg fe fg) Dn σ H → tAsg te tg Dn σ H := by
  rintro Dn σ H ⟨al, ρ, M, rl, h⟩
  refine ht σ H _ ⟨al, ρ, M, rl, Out.mono (SOut.bind h) fun d al1 M1 H1 s1 h1 r1 v hv => ?_⟩
  split at h1
  · rename_i ρ' e
    exact hg d v al1 ρ ρ' M1 σ H1 _ r1 hv e fun σ' r' => h1 al1 H1 σ' (Stp.refl _ _) r'
  · exact h1.elim
theorem ps_asgD {tg : Expr} {fg : FG} {g : TG} (he : PD C X e fe) (hp : PG X tg g) (hg : KG C fg g) (hs : swapsWithSole [tg] e pos.line X.env = pure false := by rfl) (hw : swappedStores [tg] e X.env = pure none := by rfl)
    (h1 : (assignEach [tg] X.env).map (·.2) = [assign tg X.env] := by rfl) : PDS C X (.Assign [tg] e pos) (sAsg fe fg) := PS.wk (ps_asg he hp hs hw h1) (tS_asg hg fun _ _ _ h => h)
theorem ps_setD {i : Nat} {x : Str} {pos' : Pos} (hN : X.N.Nodup) (hi : X.N[i]? = some x) (hx : Loc X.env.scope x) (he : PD C X e fe) (hs : swapsWith e (some (.Name x pos')) pos.line X.env = pure false := by rfl) (hf : X.fn x = true ∨ X.env.scope.names.lookup x = some .local := by first | exact .inl rfl | exact .inr rfl | assumption) :
    PDS C X (.Assign [.Name x pos'] e pos) (sAsg fe (gN i)) := PS.wk (ps_set hN hi hx he hs hf) (tS_asg kg_name fun _ _ _ h => h)
/-- a, b = x, y with plain local names -/
def sPar (i j : Nat) (f : FA) : FS := fun ρ M => (f ρ M).bindS fun ds M1 => match ds with | [d, e] => .nx ((ρ.set i d).set j e) M1 | _ => .bad
theorem ps_parD {i j : Nat} {x y : Str} {a b : Expr} {fa : FA} {px py pt : Pos} {kt k2 pt2} (hc : X.calm = true) (hN : X.N.Nodup) (hi : X.N[i]? = some x) (hj : X.N[j]? = some y) (hij : i ≠ j)
    (hx : X.env.scope.names.lookup x = some .local) (hy : X.env.scope.names.lookup y = some .local) (ha : PDA C X [a, b] fa)
    (hw : swappedStores [.Tuple [.Name x px, .Name y py] kt pt] (.Tuple [a, b] k2 pt2) X.env = pure (some [x, y]))
    (hs : swapsWithSole [.Tuple [.Name x px, .Name y py] kt pt] (.Tuple [a, b] k2 pt2) pos.line X.env = pure false := by rfl) :
    PDS C X (.Assign [.Tuple [.Name x px, .Name y py] kt pt] (.Tuple [a, b] k2 pt2) pos) (sPar i j fa) := by
  refine PS.wk (ps_par hc hN hi hj hij hx hy ha hw hs) ?_
  rintro Dn σ H ⟨al, ρ, M, rl, h⟩
  refine ⟨al, ρ, M, rl, Out.mono (SOut.bind h) fun ds al1 M1 H1 s1 h1 r1 vs hv => ?_⟩
  split at h1
  · obtain ⟨v, t, rfl, g1, g2⟩ := hv
    obtain ⟨w, t2, rfl, g3, g4⟩ := g2
    cases g4
    exact ⟨v, w, rfl, h1 al1 H1 _ (Stp.refl _ _) ((r1.set g1).set g3)⟩
  · exact h1.elim
def rSetD : V → V → V → Hp → (Hp → Prop) → Prop := fun o i v H Q => ∃ a H', o = .ref a ∧ DPut H a i v H' ∧ Q H'
theorem set_dict (hu : X.A.units + 1 < cLine) : PSet X rSetD := by
  intro pins s σ H o i v ov iv u Q I ro ri rv h
  obtain ⟨a, H', rfl, g, q⟩ := h
  cases ro
  exact d_setItem hu I g ri rv fun s' I' => ⟨H', I', q⟩
theorem PSet.or {t u : TSet} (h : PSet X t) (k : PSet X u) : PSet X (fun o i v H Q => t o i v H Q ∨ u o i v H Q) := fun pins s σ H o i v ov iv w Q I ro ri rv q => q.elim (h pins s σ H o i v ov iv w Q I ro ri rv) (k pins s σ H o i v ov iv w Q I ro ri rv)
def setB (M : Mem) (o i v : D) : Option Mem := match o with
  | .loc n => match M[n]? with
    | some (.lst ds) => match i with
      | .t (.int k) => match ixN ds.length k with | some j => some (M.set n (.lst (ds.set j v))) | none => none
      | _ => none
    | some (.dct kvs) => match toKey i with | some k => if kvs.length < sizeLine then some (M.set n (.dct (setK kvs k v))) else none | none => none
    | _ => none
  | _ => none
/-- o[i] = v: the value first -/
def sSub (fo fi fv : FE) : FS := fun ρ M => (fv ρ M).bindS fun v M1 => (fo ρ M1).bindS fun o M2 => (fi ρ M2).bindS fun i M3 => match setB M3 o i v with | some M4 => .nx ρ M4 | none => .bad
theorem ps_subD (hu : X.A.units + 64 < cLine) {o i value : Expr} {fo fi fv : FE} {tpos : Pos} (ho : PD C X o fo) (hi : PD C X i fi) (hv : PD C X value fv)
    (ha : ∀ v, assign (.Subscript o i tpos) X.env v = (do
      let ov ← holding [v] (eval o X.env); let iv ← holding [v, ov] (eval i X.env); standAt tpos; holding [v, ov, iv] (setItem ov iv v); release [v, ov, iv] []) := by intro _; rfl)
    (hs : swapsWithSole [.Subscript o i tpos] value pos.line X.env = pure false := by rfl) (hw : swappedStores [.Subscript o i tpos] value X.env = pure none := by rfl)
    (h1 : (assignEach [.Subscript o i tpos] X.env).map (·.2) = [assign (.Subscript o i tpos) X.env] := by rfl) : PDS C X (.Assign [.Subscript o i tpos] value pos) (sSub fo fi fv) := by
  refine PS.wk (ps_asg hv (pg_sub ho hi (PSet.or set_list (set_dict (by omega))) ha) hs hw h1) ?_
  rintro Dn σ H ⟨al, ρ, M, rl, h⟩
  refine ⟨al, ρ, M, rl, Out.mono (SOut.bind h) fun v al1 M1 H1 s1 h1 r1 vv hvv => ?_⟩
  refine ⟨al1, ρ, M1, r1, Out.mono (SOut.bind h1) fun o al2 M2 H2 s2 h2 r2 ov hov => ?_⟩
  refine ⟨al2, ρ, M2, r2, Out.mono (SOut.bind h2) fun i al3 M3 H3 s3 h3 r3 iv hiv => ?_⟩
  have hov' := Rep.le s3.le hov
  have hvv' := Rep.le (s2.trans s3).le hvv
  split at h3
  · rename_i M4 e4
    unfold setB at e4
    split at e4
    · rename_i n
      obtain ⟨a, rfl, hn⟩ := hov'
      split at e4
      · rename_i ds em
        split at e4
        · split at e4
          · rename_i j ej
            cases e4
            obtain ⟨o, eo, xs, rfl, hx⟩ := r3.cell n a _ hn em
            refine .inl ⟨a, xs, _, j, rfl, rep_int hiv, eo, by rw [hx.len]; exact ej, ?_⟩
            exact h3 al3 _ _ (stp_set r3.toCells (List.mem_of_getElem? hn)) (r3.cell_set (d := .lst (ds.set j v)) (o := .lst (xs.set j vv)) hn ⟨_, rfl, hx.set j hvv'⟩)
          · cases e4
        · cases e4
      · rename_i kvs em
        split at e4
        · rename_i k ek
          split at e4
          · rename_i hz
            cases e4
            obtain ⟨o, eo, xs, rfl, hx⟩ := r3.cell n a _ hn em
            refine .inr ⟨a, _, rfl, .inl ⟨xs, k, eo, toKey_rep ek hiv, by rw [hx.len]; exact hz, rfl⟩, ?_⟩
            exact h3 al3 _ _ (stp_set r3.toCells (List.mem_of_getElem? hn)) (r3.cell_set (d := .dct (setK kvs k v)) (o := .dK (putK xs k vv)) hn ⟨_, rfl, RepK.put k hx hvv'⟩)
          · cases e4
        · cases e4
      · cases e4
    · cases e4
  · exact h3.elim
/-- o.f = v -/
def putD (f : Str) (v : D) : List (Str × D) → List (Str × D)
  | [] => [(f, v)]
  | (g, w) :: r => if g = f then (g, v) :: r else (g, w) :: putD f v r
theorem RepF.put {c : Cr} (f : Str) {v : D} {x : V} (hv : Rep c v x) : ∀ {fs : List (Str × D)} {xs : List (Str × V)}, RepF c fs xs → RepF c (putD f v fs) (putF f x xs)
  | [], _, h => by cases h; exact ⟨x, [], rfl, hv, rfl⟩
  | (g, w) :: r, _, ⟨y, t, e, h1, h2⟩ => by
    subst e
    by_cases hg : g = f
    · simp only [putD, putF, if_pos hg]; exact ⟨x, t, rfl, hv, h2⟩
    · simp only [putD, putF, if_neg hg]; exact ⟨y, _, rfl, h1, RepF.put f hv h2⟩
theorem RepF.len {c : Cr} : ∀ {fs : List (Str × D)} {xs : List (Str × V)}, RepF c fs xs → xs.length = fs.length
  | [], _, h => by cases h; rfl
  | (_, _) :: r, _, ⟨y, t, e, h1, h2⟩ => by subst e; simp [RepF.len h2]
def sFldD (c : Nat) (n : Str) (fo fv : FE) : FS := fun ρ M => (fv ρ M).bindS fun v M1 => (fo ρ M1).bindS fun o M2 => match o with
  | .loc m => match M2[m]? with
    | some (.ins k fs) => if k = c ∧ fs.length < 1000 then .nx ρ (M2.set m (.ins k (putD n v fs))) else .bad
    | _ => .bad
  | _ => .bad
theorem ps_fldD (hK : X.K = C.K) {c : Nat} {n : Str} {o value : Expr} {fo fv : FE} {pos' : Pos} (hc : Cls C.K (C.cls c)) (hn : NoAttr C.K (C.cls c) n) (ho : PD C X o fo) (hv : PD C X value fv) (hs : swapsWith value (some (.Attribute o n pos')) pos.line X.env = pure false := by rfl) : PDS C X (.Assign [.Attribute o n pos'] value pos) (sFldD c n fo fv) := by
  refine PS.wk (ps_fld ho hv hs) ?_
  rintro Dn σ H ⟨al, ρ, M, rl, h⟩
  refine ⟨al, ρ, M, rl, Out.mono (SOut.bind h) fun v al1 M1 H1 s1 h1 r1 vv hvv => ?_⟩
  refine ⟨al1, ρ, M1, r1, Out.mono (SOut.bind h1) fun o al2 M2 H2 s2 h2 r2 ov hov => ?_⟩
  have hvv' := Rep.le s2.le hvv
  split at h2
  · rename_i m
    obtain ⟨a, rfl, hm⟩ := hov
    split at h2
    · rename_i k fs em
      split at h2
      · rename_i hz
        obtain ⟨rfl, hz⟩ := hz
        obtain ⟨o, eo, dx, xs, rfl, hx⟩ := r2.cell m a _ hm em
        refine ⟨a, _, dx, xs, rfl, eo, by rw [hK]; exact hc, by rw [hK]; exact hn, by rw [hx.len]; exact hz, ?_⟩
        exact h2 al2 _ _ (stp_set r2.toCells (List.mem_of_getElem? hm)) (r2.cell_set (d := .ins k (putD n v fs)) (o := .ins (C.cls k) dx (putF n vv xs)) hm ⟨dx, _, rfl, RepF.put n hvv' hx⟩)
      · exact h2.elim
    · exact h2.elim
  · exact h2.elim
abbrev FI := List D → Mem → R (List D × (Mem → Bool))
/-- J yields the items, while chk holds of the cells -/
def ItOk (C : Fc) (J : It) (items : List D) (chk : Mem → Bool) (al : List Addr) (M : Mem) (H : Hp) : Prop := ∃ P : List Addr → Mem → Hp → Prop, P al M H ∧
  (∀ al M H al' M' H', P al M H → Stp al H al' H' → Cells C al' M' H' → chk M' = true → P al' M' H') ∧
  (∀ (i : Nat) (d : D) al ρ M σ H, P al M H → Rel C al ρ M σ H → items[i]? = some d → J.go i H ∧ ∀ x H', J.yld i H x H' → Stp al H al H' ∧ Rel C al ρ M σ H' ∧ Rep (C.cr al H') d x ∧ P al M H') ∧
  (∀ (i : Nat) al ρ M σ H, P al M H → Rel C al ρ M σ H → items.length ≤ i → J.stop i H)
def tI (C : Fc) (f : FI) : TI := fun σ H Rr => ∃ al ρ M, Rel C al ρ M σ H ∧ Out C al H (f ρ M) (fun ic al' M' H' => Rel C al' ρ M' σ H' → ∀ J, ItOk C J ic.1 ic.2 al' M' H' → Rr J H')
structure PDI (C : Fc) (X : Cx) (tg iter : Expr) (f : FI) : Prop where
  i : PI X tg iter (tI C f)
theorem PI.wk {tg iter : Expr} {t u : TI} (h : PI X tg iter t) (m : ∀ σ H Q, u σ H Q → t σ H Q) : PI X tg iter u := ⟨fun p s σ H Q I hu => h.run p s σ H Q I (m σ H Q hu)⟩
/-- a tree's items (a list, a tuple) -/
def iSeq (f : FE) : FI := fun ρ M => (f ρ M).bind fun d M1 => match d with
  | .t (.lst ds) => .ok (ds.map .t, fun _ => true) M1
  | .t (.tup ds) => .ok (ds.map .t, fun _ => true) M1
  | _ => .bad
def iListD (f : FE) : FI := fun ρ M => (f ρ M).bind fun d M1 => match d with
  | .t (.lst ds) => .ok (ds.map .t, fun _ => true) M1
  | _ => .bad
def iTupD (f : FE) : FI := fun ρ M => (f ρ M).bind fun d M1 => match d with
  | .t (.tup ds) => .ok (ds.map .t, fun _ => true) M1
  | _ => .bad
def iScr (f : FE) : FI := fun ρ M => (f ρ M).bind fun d M1 => match d with
  | .t (.scr ns) => .ok (ns.map fun n => .t (.int n), fun _ => true) M1
  | _ => .bad
theorem itl_ok {K : PySem.W.Frag} (hK : K = C.K) {a : Addr} {xs : List V} {ds : List T} {M : Mem} (h1 : H a = some (.lst xs)) (ok : (C.cr al H).ok a) (h2 : RepTs (C.cr al H) ds xs) : ItOk C (Itl K a) (ds.map .t) (fun _ => true) al M H := by
  refine ⟨fun al' _ H' => H' a = some (.lst xs) ∧ (C.cr al' H').ok a ∧ RepTs (C.cr al' H') ds xs, ⟨h1, ok, h2⟩, fun al M H al' M' H' p s c _ => ?_, fun i d al ρ M σ H p r hd => ?_, fun i al ρ M σ H p r hi => ?_⟩
  · have := (s.le (C := C)).ls a xs p.1 p.2.1
    exact ⟨this.1, this.2, RepTs.le s.le.toLeT p.2.2⟩
  · obtain ⟨x, e1, e2⟩ := (RepL.ofT p.2.2).get hd
    refine ⟨⟨xs, x, SqL.of p.1, e1⟩, ?_⟩
    rintro y H' ⟨rfl, hy⟩
    have e3 := hy xs (SqL.of p.1)
    rw [e1] at e3
    cases e3
    exact ⟨Stp.refl _ _, r, e2, p⟩
  · rw [List.length_map] at hi
    exact ⟨xs, SqL.of p.1, by rw [p.2.2.len]; exact hi⟩
theorem itt_ok {K : PySem.W.Frag} (hK : K = C.K) {a : Addr} {xs : List V} {ds : List T} {M : Mem} (h1 : SqT C.K H a xs) (h2 : RepTs (C.cr al H) ds xs) : ItOk C (Itt K a) (ds.map .t) (fun _ => true) al M H := by
  subst hK
  refine ⟨fun al' _ H' => SqT C.K H' a xs ∧ RepTs (C.cr al' H') ds xs, ⟨h1, h2⟩, fun al M H al' M' H' p s c _ => ?_, fun i d al ρ M σ H p r hd => ?_, fun i al ρ M σ H p r hi => ?_⟩
  · exact ⟨sqT_le (c := C.cr al H) (c' := C.cr al' H') s.le.toLeT p.1, RepTs.le s.le.toLeT p.2⟩
  · obtain ⟨x, e1, e2⟩ := (RepL.ofT p.2).get hd
    refine ⟨⟨xs, x, p.1, e1⟩, ?_⟩
    rintro y H' ⟨rfl, hy⟩
    have e3 := hy xs p.1
    rw [e1] at e3
    cases e3
    exact ⟨Stp.refl _ _, r, e2, p⟩
  · rw [List.length_map] at hi
    exact ⟨xs, p.1, by rw [p.2.len]; exact hi⟩
theorem pi_listD (hK : X.K = C.K) {tg l : Expr} (hl : PD C X l fe) : PDI C X tg l (iListD fe) := ⟨by
  refine PI.wk (pi_list hl) ?_
  rintro σ H Rr ⟨al, ρ, M, rl, h⟩
  refine ⟨al, ρ, M, rl, Out.mono (Out.bind h) fun d al1 M1 H1 s1 h1 r1 v hv => ?_⟩
  split at h1
  · simp only [Rep, RepT] at hv
    obtain ⟨a, xs, rfl, g1, g2, g3⟩ := hv
    exact ⟨a, rfl, ⟨xs, SqL.of g1⟩, Out.here h1 r1 _ (itl_ok hK g1 g2 g3)⟩
  · exact h1.elim⟩
theorem pi_tupD (hK : X.K = C.K) {tg l : Expr} (hl : PD C X l fe) : PDI C X tg l (iTupD fe) := ⟨by
  refine PI.wk (pi_tup hl) ?_
  rintro σ H Rr ⟨al, ρ, M, rl, h⟩
  refine ⟨al, ρ, M, rl, Out.mono (Out.bind h) fun d al1 M1 H1 s1 h1 r1 v hv => ?_⟩
  split at h1
  · obtain ⟨a, xs, rfl, g1, g3⟩ := rep_tup hv
    exact ⟨a, rfl, ⟨xs, by rw [hK]; exact g1⟩, Out.here h1 r1 _ (itt_ok hK g1 g3)⟩
  · exact h1.elim⟩
theorem sqInts {a : Addr} {K : PySem.W.Frag} {ns : List Int} {M : Mem} (hK : K = C.K) (h : (Rd H a (.lst (ns.map V.int)) ∧ (C.cr al H).ok a) ∨ ∀ H, SqL C.K H a (ns.map V.int)) : ItOk C (Itl K a) (ns.map fun n => .t (.int n)) (fun _ => true) al M H := by
  subst hK
  have sq : ∀ {al H}, ((Rd H a (.lst (ns.map V.int)) ∧ (C.cr al H).ok a) ∨ ∀ H, SqL C.K H a (ns.map V.int)) → SqL C.K H a (ns.map V.int) := fun h => h.elim (fun h => .inl h.1) fun h => h _
  refine ⟨fun al' _ H' => (Rd H' a (.lst (ns.map V.int)) ∧ (C.cr al' H').ok a) ∨ ∀ H, SqL C.K H a (ns.map V.int), h, fun al M H al' M' H' p s c _ => ?_, fun i d al ρ M σ H p r hd => ?_, fun i al ρ M σ H p r hi => ?_⟩
  · rcases p with ⟨p1, p2⟩ | p
    · exact .inl ((s.le (C := C)).sc a _ p1 p2)
    · exact .inr p
  · rw [List.getElem?_map] at hd
    cases en : ns[i]? with
    | none => rw [en] at hd; cases hd
    | some n =>
      rw [en] at hd
      cases hd
      have e1 : (ns.map V.int)[i]? = some (.int n) := by rw [List.getElem?_map, en]; rfl
      refine ⟨⟨_, _, sq p, e1⟩, ?_⟩
      rintro y H' ⟨rfl, hy⟩
      have e3 := hy _ (sq p)
      rw [e1] at e3
      cases e3
      exact ⟨Stp.refl _ _, r, by simp only [Rep, RepT], p⟩
  · rw [List.length_map] at hi
    exact ⟨_, sq p, by rw [List.length_map]; exact hi⟩
theorem pi_scrD (hK : X.K = C.K) {tg l : Expr} (hl : PD C X l fe) : PDI C X tg l (iScr fe) := ⟨by
  refine PI.wk (pi_list hl) ?_
  rintro σ H Rr ⟨al, ρ, M, rl, h⟩
  refine ⟨al, ρ, M, rl, Out.mono (Out.bind h) fun d al1 M1 H1 s1 h1 r1 v hv => ?_⟩
  split at h1
  · simp only [Rep, RepT] at hv
    obtain ⟨a, rfl, g⟩ := hv
    rename_i ns
    have g' : SqL X.K H1 a (ns.map V.int) := by
      rw [hK]
      exact g.elim (fun h => .inl h.1) fun h => h _
    exact ⟨a, rfl, ⟨_, g'⟩, Out.here h1 r1 _ (sqInts hK g)⟩
  · exact h1.elim⟩
/-- range(n), range(a, b) -/
def iRg1 (f : FA) : FI := fun ρ M => (f ρ M).bind fun ds M1 => match ds with
  | [.t (.int j)] => if -(2 ^ 62) ≤ j ∧ j < 2 ^ 62 then .ok ((rgT 0 j).map fun n => .t (.int n), fun _ => true) M1 else .bad
  | _ => .bad
def iRg2 (f : FA) : FI := fun ρ M => (f ρ M).bind fun ds M1 => match ds with
  | [.t (.int i), .t (.int j)] => if -(2 ^ 62) ≤ i ∧ i < 2 ^ 62 ∧ -(2 ^ 62) ≤ j ∧ j < 2 ^ 62 then .ok ((rgT i j).map fun n => .t (.int n), fun _ => true) M1 else .bad
  | _ => .bad
theorem itr_ok {i j : Int} {M : Mem} : ItOk C (Itr i (j - i).toNat) ((rgT i j).map fun n => .t (.int n)) (fun _ => true) al M H := by
  refine ⟨fun _ _ _ => True, trivial, fun _ _ _ _ _ _ _ _ _ _ => trivial, fun n d al ρ M σ H _ r hd => ?_, fun n al ρ M σ H _ r hi => ?_⟩
  · unfold rgT at hd
    rw [List.map_map, List.getElem?_map] at hd
    cases en : (List.range (j - i).toNat)[n]? with
    | none => rw [en] at hd; cases hd
    | some k =>
      rw [en] at hd
      cases hd
      obtain ⟨hl, ek⟩ := List.getElem?_eq_some_iff.1 en
      rw [List.getElem_range] at ek
      subst ek
      rw [List.length_range] at hl
      refine ⟨hl, ?_⟩
      rintro y H' ⟨rfl, rfl⟩
      exact ⟨Stp.refl _ _, r, by simp only [Rep, RepT, Function.comp], trivial⟩
  · unfold rgT at hi
    rw [List.length_map, List.length_map, List.length_range] at hi
    exact hi
theorem pi_rg1D {tg a : Expr} {fa : FA} {p pos : Pos} (hg : Gl X "range") (hm : X.mg "range" = none) (ha : PDA C X [a] fa) (hs : starEach [a] X.env = [(false, eval a X.env)] := by rfl) : PDI C X tg (.Call (.Name "range" p) [a] [] pos) (iRg1 fa) := ⟨by
  refine PI.wk (pi_range1 hg hm ha hs) ?_
  rintro σ H Rr ⟨al, ρ, M, rl, h⟩
  refine ⟨al, ρ, M, rl, Out.mono (Out.bind h) fun ds al1 M1 H1 s1 h1 r1 vs hv => ?_⟩
  split at h1
  · split at h1
    · rename_i hz
      obtain ⟨v, t, rfl, g1, g2⟩ := hv
      cases g2
      have := Out.here h1 r1 _ itr_ok
      rw [Int.sub_zero] at this
      exact ⟨_, by rw [rep_int g1], hz.1, hz.2, this⟩
    · exact h1.elim
  · exact h1.elim⟩
theorem pi_rg2D {tg a b : Expr} {fa : FA} {p pos : Pos} (hg : Gl X "range") (hm : X.mg "range" = none) (ha : PDA C X [a, b] fa) (hs : starEach [a, b] X.env = [(false, eval a X.env), (false, eval b X.env)] := by rfl) (hs2 : starEach [b] X.env = [(false, eval b X.env)] := by rfl) : PDI C X tg (.Call (.Name "range" p) [a, b] [] pos) (iRg2 fa) := ⟨by
  refine PI.wk (pi_range2 hg hm ha hs hs2) ?_
  rintro σ H Rr ⟨al, ρ, M, rl, h⟩
  refine ⟨al, ρ, M, rl, Out.mono (Out.bind h) fun ds al1 M1 H1 s1 h1 r1 vs hv => ?_⟩
  split at h1
  · split at h1
    · rename_i hz
      obtain ⟨v, t, rfl, g1, g2⟩ := hv
      obtain ⟨w, t2, rfl, g3, g4⟩ := g2
      cases g4
      exact ⟨_, _, by rw [rep_int g1, rep_int g3], hz, Out.here h1 r1 _ itr_ok⟩
    · exact h1.elim
  · exact h1.elim⟩
/-- a text, sign by sign -/
def iStrD (f : FE) : FI := fun ρ M => (f ρ M).bind fun d M1 => match d with
  | .t (.str z) => .ok (z.cps.toList.map fun c => .t (.str ⟨#[c]⟩), fun _ => true) M1
  | _ => .bad
def loopS (g : FG) (body : FS) (chk : Mem → Bool) : List D → List D → Mem → RS
  | [], ρ, M => .nx ρ M
  | d :: ds, ρ, M => match g d ρ M with
    | none => .bad
    | some ρ1 => match body ρ1 M with
      | .nx ρ2 M2 => if chk M2 = true then loopS g body chk ds ρ2 M2 else .bad
      | .cnt ρ2 M2 => if chk M2 = true then loopS g body chk ds ρ2 M2 else .bad
      | .brk ρ2 M2 => .nx ρ2 M2
      | .ret d M2 => .ret d M2
      | .exc e M2 => .exc e M2
      | .bad => .bad
def sFor (fi : FI) (g : FG) (body : FS) : FS := fun ρ M => (fi ρ M).bindS fun ic M1 => loopS g body ic.2 ic.1 ρ M1
theorem ps_forD {tg iter : Expr} {body : List Stmt} {fi : FI} {fg : FG} {tgt : TG} {fb : FS} (hp : PassesOwn (model X.prog X.w) X.A X.env X.xe) (hc : X.calm = true) (hi : PDI C X tg iter fi) (hg : PG X tg tgt) (hk : KG C fg tgt) (hb : PDSs C X body fb)
    (hs : ∀ x, foldedSetIterable iter X.env x = pure x := by intro _; rfl) : PDS C X (.For tg iter body [] pos) (sFor fi fg fb) := by
  refine PS.wk (ps_for hp hc hi.i hg hb hs) ?_
  rintro Dn σ H ⟨al, ρ, M, rl, h⟩
  refine ⟨al, ρ, M, rl, Out.mono (SOut.bind h) fun ic al1 M1 H1 s1 h1 r1 J hJ => ?_⟩
  obtain ⟨P, p0, pst, pgo, pend⟩ := hJ
  obtain ⟨items, chk⟩ := ic
  refine ⟨fun i m σ H => m = items.length - i ∧ ∃ al ρ M, Rel C al ρ M σ H ∧ P al M H ∧ SOut C al H (loopS fg fb chk (items.drop i) ρ M) Dn, ⟨items.length, rfl, al1, ρ, M1, r1, p0, h1⟩, ?_⟩
  rintro i m σ H ⟨hm, al, ρ, M, r, p, ho⟩
  by_cases hi : i < items.length
  · right
    have e0 : items[i]? = some items[i] := List.getElem?_eq_getElem hi
    obtain ⟨g1, g2⟩ := pgo i items[i] al ρ M σ H p r e0
    rw [List.drop_eq_getElem_cons hi] at ho
    simp only [loopS] at ho
    refine ⟨g1, fun σ' H' => ∃ m', m' < m ∧ (m' = items.length - (i + 1) ∧ ∃ al ρ M, Rel C al ρ M σ' H' ∧ P al M H' ∧ SOut C al H' (loopS fg fb chk (items.drop (i + 1)) ρ M) Dn), fun σ' H' h => h, fun x H' hy => ?_⟩
    obtain ⟨sy, ry, hx, py⟩ := g2 x H' hy
    cases eg : fg items[i] ρ M with
    | none => rw [eg] at ho; exact ho.elim
    | some ρ1 =>
      rw [eg] at ho
      refine hk items[i] x al ρ ρ1 M σ H' _ ry hx eg fun σ1 r2 => ⟨al, ρ1, M, r2, ?_⟩
      have ho' := SOut.step sy ho
      dsimp only at ho'
      cases eb : fb ρ1 M with
      | nx ρ2 M2 =>
        rw [eb] at ho'
        dsimp only at ho'
        intro al3 H3 σ3 s3 r3
        split at ho'
        · rename_i hck
          exact ⟨items.length - (i + 1), by omega, rfl, al3, ρ2, M2, r3, pst _ _ _ _ _ _ py s3 r3.toCells hck, SOut.step s3 ho'⟩
        · exact ho'.elim
      | cnt ρ2 M2 =>
        rw [eb] at ho'
        dsimp only at ho'
        intro al3 H3 σ3 s3 r3
        split at ho'
        · rename_i hck
          exact ⟨items.length - (i + 1), by omega, rfl, al3, ρ2, M2, r3, pst _ _ _ _ _ _ py s3 r3.toCells hck, SOut.step s3 ho'⟩
        · exact ho'.elim
      | brk ρ2 M2 => rw [eb] at ho'; exact ho'
      | ret d M2 => rw [eb] at ho'; exact ho'
      | exc e M2 => rw [eb] at ho'; exact ho'
      | bad => rw [eb] at ho'; exact ho'
  · left
    have hle : items.length ≤ i := Nat.le_of_not_lt hi
    rw [List.drop_eq_nil_of_le hle] at ho
    exact ⟨pend i al ρ M σ H p r hle, ho al H σ (Stp.refl _ _) r⟩
def whileS (p : FT) (body : FS) : Nat → List D → Mem → RS
  | 0, _, _ => .bad
  | n + 1, ρ, M => (p ρ M).bindS fun b M1 => if b = true then match body ρ M1 with
      | .nx ρ2 M2 => whileS p body n ρ2 M2
      | .cnt ρ2 M2 => whileS p body n ρ2 M2
      | .brk ρ2 M2 => .nx ρ2 M2
      | .ret d M2 => .ret d M2
      | .exc e M2 => .exc e M2
      | .bad => .bad
    else .nx ρ M1
/-- a while of at most n turns -/
def sWhile (n : List D → Mem → Nat) (p : FT) (body : FS) : FS := fun ρ M => whileS p body (n ρ M) ρ M
theorem ps_whileD {c : Expr} {body : List Stmt} {p : FT} {fb : FS} (n : List D → Mem → Nat) (hp : PassesOwn (model X.prog X.w) X.A X.env X.xe) (hc : PDT C X c p) (hb : PDSs C X body fb) : PDS C X (.While c body [] pos) (sWhile n p fb) := by
  refine PS.wk (ps_while hp hc hb) ?_
  rintro Dn σ H ⟨al, ρ, M, rl, h⟩
  refine ⟨fun m σ H => ∃ al ρ M, Rel C al ρ M σ H ∧ SOut C al H (whileS p fb m ρ M) Dn, ⟨_, al, ρ, M, rl, h⟩, ?_⟩
  rintro m σ H ⟨al, ρ, M, r, ho⟩
  cases m with
  | zero => exact ho.elim
  | succ m =>
    simp only [whileS] at ho
    refine ⟨al, ρ, M, r, Out.mono (SOut.bind ho) fun b al1 M1 H1 s1 h1 r1 => ?_⟩
    cases b with
    | false => exact h1 al1 H1 σ (Stp.refl _ _) r1
    | true =>
      rw [if_pos rfl] at h1
      refine ⟨fun σ' H' => ∃ al ρ M, Rel C al ρ M σ' H' ∧ SOut C al H' (whileS p fb m ρ M) Dn, fun σ' H' h => ⟨m, Nat.lt_succ_self m, h⟩, al1, ρ, M1, r1, ?_⟩
      cases eb : fb ρ M1 with
      | nx ρ2 M2 => rw [eb] at h1; exact fun al3 H3 σ3 s3 r3 => ⟨al3, ρ2, M2, r3, SOut.step s3 h1⟩
      | cnt ρ2 M2 => rw [eb] at h1; exact fun al3 H3 σ3 s3 r3 => ⟨al3, ρ2, M2, r3, SOut.step s3 h1⟩
      | brk ρ2 M2 => rw [eb] at h1; exact h1
      | ret d M2 => rw [eb] at h1; exact h1
      | exc e M2 => rw [eb] at h1; exact h1
      | bad => rw [eb] at h1; exact h1
end
end LL
namespace LL
open PySem L2
def Fc.nox (C : Fc) : Fc := { C with E := E0 }
section
variable {C : Fc} {X : Cx} {al al' : List Addr} {ρ : List D} {M M' : Mem} {σ : L2.St} {H H' : Hp}
theorem Cells.nox (r : Cells C al M H) : Cells C.nox al M H := ⟨r.len, r.nd, r.cell, r.dom⟩
theorem Cells.unnox (r : Cells C.nox al M H) : Cells C al M H := ⟨r.len, r.nd, r.cell, r.dom⟩
theorem Rel.nox (r : Rel C al ρ M σ H) : Rel C.nox al ρ M σ H := { r.toCells.nox with sl := r.sl, slot := r.slot }
theorem Rel.unnox (r : Rel C.nox al ρ M σ H) : Rel C al ρ M σ H := { r.toCells.unnox with sl := r.sl, slot := r.slot }
def nb {A : Type} (r : R A) : R A := match r with | .exc _ _ => .bad | r => r
theorem Out.nox {A : Type} {r : R A} {k : A → List Addr → Mem → Hp → Prop} (h : Out C al H (nb r) k) : Out C.nox al H r k := by
  cases r with
  | ok d M => exact h
  | exc e M => exact h.elim
  | bad => exact h
/-- the slots as they were, behind a step -/
theorem Rel.to (r : Rel C al ρ M σ H) (s : Stp al H al' H') (c : Cells C al' M' H') : Rel C al' ρ M' σ H' :=
  { c with
    sl := r.sl
    slot := fun i d h hu => by
      obtain ⟨v, h1, h2⟩ := r.slot i d h hu
      exact ⟨v, h1, Rep.le s.le h2⟩ }
def wipeD (ρ : List D) : List Nat → List D
  | [] => ρ
  | v :: vs => (wipeD ρ vs).set v .und
theorem wipeD_length (ρ : List D) : ∀ vs : List Nat, (wipeD ρ vs).length = ρ.length
  | [] => rfl
  | v :: vs => by unfold wipeD; rw [List.length_set, wipeD_length ρ vs]
theorem wipe_get {i : Nat} {d : D} : ∀ {vs : List Nat}, (wipeD ρ vs)[i]? = some d → d ≠ .und → i ∉ vs ∧ ρ[i]? = some d
  | [], h, _ => ⟨fun z => (nomatch z), h⟩
  | v :: vs, h, hu => by
    unfold wipeD at h
    by_cases hi : v = i
    · subst hi
      have hl : v < (wipeD ρ vs).length := by have := (List.getElem?_eq_some_iff.1 h).1; rw [List.length_set] at this; exact this
      rw [List.getElem?_set_self hl] at h
      cases h
      exact absurd rfl hu
    · rw [List.getElem?_set_ne hi] at h
      obtain ⟨h1, h2⟩ := wipe_get h hu
      exact ⟨fun z => by rcases List.mem_cons.1 z with z | z; exact hi z.symm; exact h1 z, h2⟩
theorem wipe_keep {i : Nat} : ∀ {vs : List Nat}, i ∉ vs → (wipe σ vs)[i]? = σ[i]?
  | [], _ => rfl
  | v :: vs, h => by
    rw [List.mem_cons, not_or] at h
    unfold wipe
    rw [List.getElem?_set_ne (fun z => h.1 z.symm), wipe_keep h.2]
theorem Rel.wipe (r : Rel C al ρ M σ H) (vs : List Nat) : Rel C al (wipeD ρ vs) M (wipe σ vs) H :=
  { r.toCells with
    sl := by rw [wipeD_length, wipe_length]; exact r.sl
    slot := fun i d h hu => by
      obtain ⟨h1, h2⟩ := wipe_get h hu
      obtain ⟨v, h3, h4⟩ := r.slot i d h2 hu
      exact ⟨v, by rw [wipe_keep h1]; exact h3, h4⟩ }
theorem set_wipe (j : Nat) (o : Option V) : ∀ (vs : List Nat) (σ : L2.St), (wipe (σ.set j o) vs).set j none = (wipe σ vs).set j none
  | [], σ => by unfold wipe; rw [List.set_set]
  | v :: vs, σ => by
    unfold wipe
    by_cases h : v = j
    · subst h
      rw [List.set_set, List.set_set, set_wipe v o vs σ]
    · rw [List.set_comm _ _ h, set_wipe j o vs σ, List.set_comm _ _ (fun z => h z.symm)]
theorem wipe_set {j : Nat} {o : Option V} : ∀ {vs : List Nat} {σ : L2.St}, j ∈ vs → wipe (σ.set j o) vs = wipe σ vs
  | v :: vs, σ, h => by
    by_cases hv : v = j
    · subst hv
      unfold wipe
      exact set_wipe v o vs σ
    · unfold wipe
      rw [wipe_set (by rcases List.mem_cons.1 h with z | z; exact absurd z.symm hv; exact z)]
theorem wipe_wipe : ∀ (vs ws : List Nat) (σ : L2.St), (∀ v ∈ vs, v ∈ ws) → wipe (wipe σ vs) ws = wipe σ ws
  | [], ws, σ, _ => rfl
  | v :: vs, ws, σ, h => by
    conv => lhs; arg 1; unfold wipe
    rw [wipe_set (h v (List.mem_cons_self ..)), wipe_wipe vs ws σ fun w hw => h w (List.mem_cons_of_mem _ hw)]
/-- a target that stores into the slots vs alone -/
def KGc (C : Fc) (f : FG) (g : TG) (vs : List Nat) : Prop := ∀ (d : D) (v : V) (al : List Addr) (ρ ρ' : List D) (M : Mem) (σ : L2.St) (H : Hp) (Q : L2.St → Hp → Prop), Rel C al ρ M σ H → Rep (C.cr al H) d v → f d ρ M = some ρ' → (∀ σ', Rel C al ρ' M σ' H → L2.wipe σ' vs = L2.wipe σ vs → Q σ' H) → g v σ H Q
theorem kgc_name {j : Nat} {vs : List Nat} (hj : j ∈ vs) : KGc C (gN j) (gName j) vs := by
  intro d v al ρ ρ' M σ H Q r hv e h
  cases e
  exact h _ (r.set hv) (wipe_set hj)
theorem kgcs_names {vs : List Nat} : ∀ {js : List Nat} {ds : List T} {xs : List V} {ρ : List D} {σ : L2.St} {Q : L2.St → Hp → Prop}, (∀ j ∈ js, j ∈ vs) → Rel C al ρ M σ H → RepTs (C.cr al H) ds xs → ds.length = js.length → (∀ σ', Rel C al (setN js ds ρ) M σ' H → L2.wipe σ' vs = L2.wipe σ vs → Q σ' H) → gsNames js xs σ H Q
  | [], [], xs, ρ, σ, Q, _, r, hx, _, h => by
    simp only [RepTs] at hx
    subst hx
    exact ⟨rfl, h σ r rfl⟩
  | j :: js, d :: ds, xs, ρ, σ, Q, hj, r, hx, hl, h => by
    simp only [RepTs] at hx
    obtain ⟨x, t, rfl, h1, h2⟩ := hx
    have hl' : ds.length = js.length := by simpa using hl
    exact ⟨x, t, rfl, kgcs_names (fun k hk => hj k (List.mem_cons_of_mem _ hk)) (r.set (d := .t d) h1) h2 hl' fun σ' r' w => h σ' r' (w.trans (wipe_set (hj j (List.mem_cons_self ..))))⟩
  | [], _ :: _, _, _, _, _, _, _, _, hl, _ => by simp at hl
  | _ :: _, [], _, _, _, _, _, _, _, hl, _ => by simp at hl
theorem kgc_tup {js vs : List Nat} (hj : ∀ j ∈ js, j ∈ vs) : KGc C (gT js) (gTup C.K js.length (gsNames js)) vs := by
  intro d v al ρ ρ' M σ H Q r hv e h
  unfold gT at e
  split at e
  · split at e
    · rename_i hl
      cases e
      obtain ⟨a, xs, rfl, h1, h2⟩ := rep_tup hv
      exact ⟨a, xs, rfl, h1, by rw [h2.len]; exact hl, kgcs_names hj r h2 hl h⟩
    · cases e
  · cases e
def fYes : FT := fun _ M => .ok true M
theorem pts_nilD : PTs X [] (tT C fYes) := ⟨fun p s σ H Q I ⟨al, ρ, M, rl, h⟩ => pts_nil.run p s σ H Q I (Out.here h rl)⟩
theorem pts_oneD {c : Expr} {p : FT} (h : PDT C X c p) : PTs X [c] (tT C p) := pts_one h
def compS (vs : List Nat) (g : FG) (tt : FT) (te : FE) (chk : Mem → Bool) (n : Nat) : List D → List D → Mem → R D
  | [], _, M => .ok (.loc n) M
  | d :: ds, ρ, M => match g d (wipeD ρ vs) M with
    | none => .bad
    | some ρ2 => (nb (tt ρ2 M)).bind fun b M1 => if b = true then (nb (te ρ2 M1)).bind fun y M2 => match M2[n]? with
          | some (.lst acc) => if acc.length < sizeLine ∧ chk (M2.set n (.lst (acc ++ [y]))) = true then compS vs g tt te chk n ds ρ (M2.set n (.lst (acc ++ [y]))) else .bad
          | _ => .bad
        else if chk M1 = true then compS vs g tt te chk n ds ρ M1 else .bad
def eLcC (fi : FI) (vs : List Nat) (g : FG) (tt : FT) (te : FE) : FE := fun ρ M => (fi ρ M).bind fun ic M1 => if ic.2 (M1 ++ [.lst []]) = true then compS vs g tt te ic.2 M1.length ic.1 ρ (M1 ++ [.lst []]) else .bad
def eLc (fi : FI) (vs : List Nat) (g : FG) (tt : FT) (te : FE) : FE := fun ρ M => (fi ρ M).bind fun ic M1 => if ic.2 (M1 ++ [.lst []]) = true then unC M1.length (compS vs g tt te ic.2 M1.length ic.1 ρ (M1 ++ [.lst []])) else .bad
theorem lc_ok {vs : List Nat} {fg : FG} {g : TG} {tt : FT} {te : FE} {items : List D} {chk : Mem → Bool} {J : It} {Q : VK} (hk : KGc C fg g vs) (r1 : Rel C al ρ M σ H) (hJ : ItOk C J items chk al M H)
    (h : Out C al H (compS vs fg tt te chk M.length items ρ (M ++ [.lst []])) (KE C ρ σ Q)) (hck : chk (M ++ [.lst []]) = true) :
    ∀ A, H A = none → ∃ W : Nat → Nat → Hp → Prop, (∃ m, W 0 m (upd H A (.lst []))) ∧ ∀ i m H, W i m H →
      (J.stop i H ∧ Q (.ref A) H) ∨ (J.go i H ∧ ∃ Nx : Hp → Prop, (∀ H', Nx H' → ∃ m', m' < m ∧ W (i + 1) m' H') ∧ ∀ x H', J.yld i H x H' → g x (L2.wipe σ vs) H' fun σ2 H2 => L2.wipe σ2 vs = L2.wipe σ vs ∧ tT C.nox tt σ2 H2 fun b H3 =>
        if b = true then tD C.nox te σ2 H3 fun y H4 => ∃ acc, H4 A = some (.lst acc) ∧ acc.length < sizeLine ∧ Nx (upd H4 A (.lst (acc ++ [y]))) else Nx H3) := by
  intro A hA
  obtain ⟨P, p0, pst, pgo, pend⟩ := hJ
  obtain ⟨r2, hl⟩ := r1.cell_new (d := .lst []) (o := .lst []) hA ⟨[], rfl, rfl⟩
  have s2 := stp_cell (o := .lst []) r1.toCells hA
  have n0 : (al ++ [A])[M.length]? = some A := by rw [← r1.len]; simp
  generalize hn : M.length = n at h n0
  refine ⟨fun i m H => m = items.length - i ∧ ∃ al M, al[n]? = some A ∧ Rel C al ρ M σ H ∧ P al M H ∧ Out C al H (compS vs fg tt te chk n (items.drop i) ρ M) (KE C ρ σ Q),
    ⟨items.length, rfl, al ++ [A], M ++ [.lst []], n0, r2, pst _ _ _ _ _ _ p0 s2 r2.toCells hck, by rw [List.drop_zero]; exact Out.step s2 h⟩, ?_⟩
  rintro i m H ⟨hm, al, M, hA', r, p, ho⟩
  by_cases hi : i < items.length
  · right
    have e0 : items[i]? = some items[i] := List.getElem?_eq_getElem hi
    obtain ⟨g1, g2⟩ := pgo i items[i] al ρ M σ H p r e0
    rw [List.drop_eq_getElem_cons hi] at ho
    simp only [compS] at ho
    refine ⟨g1, fun H' => ∃ m', m' < m ∧ (m' = items.length - (i + 1) ∧ ∃ al M, al[n]? = some A ∧ Rel C al ρ M σ H' ∧ P al M H' ∧ Out C al H' (compS vs fg tt te chk n (items.drop (i + 1)) ρ M) (KE C ρ σ Q)), fun H' h => h, fun x H' hy => ?_⟩
    obtain ⟨sy, ry, hx, py⟩ := g2 x H' hy
    cases eg : fg items[i] (wipeD ρ vs) M with
    | none => rw [eg] at ho; exact ho.elim
    | some ρ2 =>
      rw [eg] at ho
      have ho' := Out.step sy ho
      dsimp only at ho'
      refine hk items[i] x al (wipeD ρ vs) ρ2 M _ H' _ (ry.wipe vs) hx eg fun σ2 q2 w2 => ⟨w2.trans (wipe_wipe vs vs σ fun _ z => z), al, ρ2, M, q2.nox, ?_⟩
      refine Out.mono (Out.nox (Out.bind ho')) fun b al3 M3 H3 s3 h3 r3 => ?_
      cases b with
      | false =>
        rw [if_neg (by simp)] at h3 ⊢
        split at h3
        · rename_i hck
          have hA3 : al3[n]? = some A := s3.le (C := C) |>.lc n A hA'
          exact ⟨items.length - (i + 1), by omega, rfl, al3, M3, hA3, ry.to s3 r3.unnox.toCells, pst _ _ _ _ _ _ py s3 r3.unnox.toCells hck, h3⟩
        · exact h3.elim
      | true =>
        rw [if_pos rfl] at h3 ⊢
        refine ⟨al3, ρ2, M3, r3, Out.mono (Out.nox (Out.bind h3)) fun y al4 M4 H4 s4 h4 r4 v hv => ?_⟩
        split at h4
        · rename_i acc em
          split at h4
          · rename_i hz
            have hA4 : al4[n]? = some A := (s3.trans s4).le (C := C) |>.lc n A hA'
            have r4' := ry.to (s3.trans s4) r4.unnox.toCells
            obtain ⟨o, eo, xs, rfl, hxs⟩ := r4'.cell n A _ hA4 em
            refine ⟨xs, eo, by rw [hxs.len]; exact hz.1, ?_⟩
            have s5 := stp_set (o := .lst (xs ++ [v])) r4'.toCells (List.mem_of_getElem? hA4)
            have r5 := r4'.cell_set (d := .lst (acc ++ [y])) (o := .lst (xs ++ [v])) hA4 ⟨_, rfl, hxs.append (RepL.one hv)⟩
            exact ⟨items.length - (i + 1), by omega, rfl, al4, _, hA4, r5, pst _ _ _ _ _ _ py ((s3.trans s4).trans s5) r5.toCells hz.2, Out.step s5 h4⟩
          · exact h4.elim
        · exact h4.elim
  · left
    have hle : items.length ≤ i := Nat.le_of_not_lt hi
    rw [List.drop_eq_nil_of_le hle] at ho
    exact ⟨pend i al ρ M σ H p r hle, Out.here ho r _ ⟨A, rfl, hA'⟩⟩
theorem tD_lcC {vs : List Nat} {fg : FG} {g : TG} {tt : FT} {te : FE} {fi : FI} (hk : KGc C fg g vs) : ∀ σ H Q, tD C (eLcC fi vs fg tt te) σ H Q → tLc (tI C fi) g (tT C.nox tt) (tD C.nox te) vs σ H Q := by
  rintro σ H Q ⟨al, ρ, M, rl, h⟩
  refine ⟨al, ρ, M, rl, Out.mono (Out.bind h) fun ic al1 M1 H1 s1 h1 r1 J hJ => ?_⟩
  split at h1
  · rename_i hck
    exact lc_ok hk r1 hJ h1 hck
  · exact h1.elim
theorem tD_lc {vs : List Nat} {fg : FG} {g : TG} {tt : FT} {te : FE} {fi : FI} (hk : KGc C fg g vs) : ∀ σ H Q, tD C (eLc fi vs fg tt te) σ H Q → tLc (tI C fi) g (tT C.nox tt) (tD C.nox te) vs σ H Q := by
  rintro σ H Q ⟨al, ρ, M, rl, h⟩
  refine ⟨al, ρ, M, rl, Out.mono (Out.bind h) fun ic al1 M1 H1 s1 h1 r1 J hJ => ?_⟩
  split at h1
  · rename_i hck
    exact lc_ok hk r1 hJ (Out.unC r1 h1) hck
  · exact h1.elim
variable {elt tg iter : Expr} {ifs : List Expr} {scope : Scope} {own : List (Str × Nat)} {pos : Pos} {fi : FI} {fg : FG} {g : TG} {tt : FT} {te : FE}
theorem pd_lc (hc : X.calm = true) (hN : X.N.Nodup) (hi : PDI C X tg iter fi) (hk : KGc C fg g (own.map (·.2))) (ok : BlkOk X.N X.env.scope scope own)
    (hg : ∀ (s : Shared) (H : Hp) (A : Addr) (cl : List (Str × Addr)) (fp : List Addr), PG (X.blk s H scope (compEnvC scope cl A X.env) fp) tg g) (ht : ∀ (s : Shared) (H : Hp) (A : Addr) (cl : List (Str × Addr)) (fp : List Addr), PTs (X.blk s H scope (compEnvC scope cl A X.env) fp) ifs (tT C.nox tt))
    (he : ∀ (s : Shared) (H : Hp) (A : Addr) (cl : List (Str × Addr)) (fp : List Addr), PD C.nox (X.blk s H scope (compEnvC scope cl A X.env) fp) elt te) (hs : ∀ x, foldedSetIterable iter X.env x = pure x := by intro _; rfl) :
    PD C X (.ListComp elt [⟨tg, iter, ifs, 0⟩] scope pos) (eLc fi (own.map (·.2)) fg tt te) := PE.wk (pe_lc hc hN hi.i ok hg ht he hs) (tD_lc hk)
theorem pd_lcC (hc : X.calm = true) (hN : X.N.Nodup) (hi : PDI C X tg iter fi) (hk : KGc C fg g (own.map (·.2))) (ok : BlkOk X.N X.env.scope scope own)
    (hg : ∀ (s : Shared) (H : Hp) (A : Addr) (cl : List (Str × Addr)) (fp : List Addr), PG (X.blk s H scope (compEnvC scope cl A X.env) fp) tg g) (ht : ∀ (s : Shared) (H : Hp) (A : Addr) (cl : List (Str × Addr)) (fp : List Addr), PTs (X.blk s H scope (compEnvC scope cl A X.env) fp) ifs (tT C.nox tt))
    (he : ∀ (s : Shared) (H : Hp) (A : Addr) (cl : List (Str × Addr)) (fp : List Addr), PD C.nox (X.blk s H scope (compEnvC scope cl A X.env) fp) elt te) (hs : ∀ x, foldedSetIterable iter X.env x = pure x := by intro _; rfl) :
    PD C X (.ListComp elt [⟨tg, iter, ifs, 0⟩] scope pos) (eLcC fi (own.map (·.2)) fg tt te) := PE.wk (pe_lc hc hN hi.i ok hg ht he hs) (tD_lcC hk)
/-- y = [..] -/
theorem ps_setLcD {i : Nat} {y : Str} {py spos : Pos} (hc : X.calm = true) (hN : X.N.Nodup) (hy : X.N[i]? = some y) (hyl : X.env.scope.names.lookup y = some .local)
    (hsw : swapsWith (.ListComp elt [⟨tg, iter, ifs, 0⟩] scope pos) (some (.Name y py)) spos.line X.env = pure true) (hi : PDI C X tg iter fi) (hk : KGc C fg g (own.map (·.2))) (ok : BlkOk X.N X.env.scope scope own)
    (hg : ∀ (s : Shared) (H : Hp) (A : Addr) (cl : List (Str × Addr)) (fp : List Addr), PG (X.blk s H scope (compEnvC scope cl A X.env) fp) tg g) (ht : ∀ (s : Shared) (H : Hp) (A : Addr) (cl : List (Str × Addr)) (fp : List Addr), PTs (X.blk s H scope (compEnvC scope cl A X.env) fp) ifs (tT C.nox tt))
    (he : ∀ (s : Shared) (H : Hp) (A : Addr) (cl : List (Str × Addr)) (fp : List Addr), PD C.nox (X.blk s H scope (compEnvC scope cl A X.env) fp) elt te) (hs : ∀ x, foldedSetIterable iter X.env x = pure x := by intro _; rfl) :
    PDS C X (.Assign [.Name y py] (.ListComp elt [⟨tg, iter, ifs, 0⟩] scope pos) spos) (sAsg (eLc fi (own.map (·.2)) fg tt te) (gN i)) := PS.wk (ps_setLc hc hN hy hyl hsw hi.i ok hg ht he hs) (tS_asg kg_name (tD_lc hk))
theorem ps_setLcCD {i : Nat} {y : Str} {py spos : Pos} (hc : X.calm = true) (hN : X.N.Nodup) (hy : X.N[i]? = some y) (hyl : X.env.scope.names.lookup y = some .local)
    (hsw : swapsWith (.ListComp elt [⟨tg, iter, ifs, 0⟩] scope pos) (some (.Name y py)) spos.line X.env = pure true) (hi : PDI C X tg iter fi) (hk : KGc C fg g (own.map (·.2))) (ok : BlkOk X.N X.env.scope scope own)
    (hg : ∀ (s : Shared) (H : Hp) (A : Addr) (cl : List (Str × Addr)) (fp : List Addr), PG (X.blk s H scope (compEnvC scope cl A X.env) fp) tg g) (ht : ∀ (s : Shared) (H : Hp) (A : Addr) (cl : List (Str × Addr)) (fp : List Addr), PTs (X.blk s H scope (compEnvC scope cl A X.env) fp) ifs (tT C.nox tt))
    (he : ∀ (s : Shared) (H : Hp) (A : Addr) (cl : List (Str × Addr)) (fp : List Addr), PD C.nox (X.blk s H scope (compEnvC scope cl A X.env) fp) elt te) (hs : ∀ x, foldedSetIterable iter X.env x = pure x := by intro _; rfl) :
    PDS C X (.Assign [.Name y py] (.ListComp elt [⟨tg, iter, ifs, 0⟩] scope pos) spos) (sAsg (eLcC fi (own.map (·.2)) fg tt te) (gN i)) := PS.wk (ps_setLc hc hN hy hyl hsw hi.i ok hg ht he hs) (tS_asg kg_name (tD_lcC hk))
def dcompS (vs : List Nat) (g : FG) (tt : FT) (tk tv : FE) (chk : Mem → Bool) (n : Nat) : List D → List D → Mem → R D
  | [], _, M => .ok (.loc n) M
  | d :: ds, ρ, M => match g d (wipeD ρ vs) M with
    | none => .bad
    | some ρ2 => (nb (tt ρ2 M)).bind fun b M1 => if b = true then (nb (tk ρ2 M1)).bind fun y M2 => (nb (tv ρ2 M2)).bind fun z M3 => match M3[n]?, toKey y with
          | some (.dct acc), some k => if acc.length < sizeLine ∧ chk (M3.set n (.dct (setK acc k z))) = true then dcompS vs g tt tk tv chk n ds ρ (M3.set n (.dct (setK acc k z))) else .bad
          | _, _ => .bad
        else if chk M1 = true then dcompS vs g tt tk tv chk n ds ρ M1 else .bad
def eDc (fi : FI) (vs : List Nat) (g : FG) (tt : FT) (tk tv : FE) : FE := fun ρ M => (fi ρ M).bind fun ic M1 => if ic.2 (M1 ++ [.dct []]) = true then unC M1.length (dcompS vs g tt tk tv ic.2 M1.length ic.1 ρ (M1 ++ [.dct []])) else .bad
theorem dc_ok {vs : List Nat} {fg : FG} {g : TG} {tt : FT} {tk tv : FE} {items : List D} {chk : Mem → Bool} {J : It} {Q : VK} (hk : KGc C fg g vs) (r1 : Rel C al ρ M σ H) (hJ : ItOk C J items chk al M H)
    (h : Out C al H (dcompS vs fg tt tk tv chk M.length items ρ (M ++ [.dct []])) (KE C ρ σ Q)) (hck : chk (M ++ [.dct []]) = true) :
    ∀ A, H A = none → ∃ W : Nat → Nat → Hp → Prop, (∃ m, W 0 m (upd H A (.dK []))) ∧ ∀ i m H, W i m H →
      (J.stop i H ∧ Q (.ref A) H) ∨ (J.go i H ∧ ∃ Nx : Hp → Prop, (∀ H', Nx H' → ∃ m', m' < m ∧ W (i + 1) m' H') ∧ ∀ x H', J.yld i H x H' → g x (L2.wipe σ vs) H' fun σ2 H2 => L2.wipe σ2 vs = L2.wipe σ vs ∧ tT C.nox tt σ2 H2 fun b H3 =>
        if b = true then tD C.nox tk σ2 H3 fun y H4 => tD C.nox tv σ2 H4 fun z H5 => ∃ kvs k, y = kV k ∧ H5 A = some (.dK kvs) ∧ kvs.length < sizeLine ∧ Nx (upd H5 A (.dK (putK kvs k z))) else Nx H3) := by
  intro A hA
  obtain ⟨P, p0, pst, pgo, pend⟩ := hJ
  obtain ⟨r2, hl⟩ := r1.cell_new (d := .dct []) (o := .dK []) hA ⟨[], rfl, rfl⟩
  have s2 := stp_cell (o := .dK []) r1.toCells hA
  have n0 : (al ++ [A])[M.length]? = some A := by rw [← r1.len]; simp
  generalize hn : M.length = n at h n0
  refine ⟨fun i m H => m = items.length - i ∧ ∃ al M, al[n]? = some A ∧ Rel C al ρ M σ H ∧ P al M H ∧ Out C al H (dcompS vs fg tt tk tv chk n (items.drop i) ρ M) (KE C ρ σ Q),
    ⟨items.length, rfl, al ++ [A], M ++ [.dct []], n0, r2, pst _ _ _ _ _ _ p0 s2 r2.toCells hck, by rw [List.drop_zero]; exact Out.step s2 h⟩, ?_⟩
  rintro i m H ⟨hm, al, M, hA', r, p, ho⟩
  by_cases hi : i < items.length
  · right
    have e0 : items[i]? = some items[i] := List.getElem?_eq_getElem hi
    obtain ⟨g1, g2⟩ := pgo i items[i] al ρ M σ H p r e0
    rw [List.drop_eq_getElem_cons hi] at ho
    simp only [dcompS] at ho
    refine ⟨g1, fun H' => ∃ m', m' < m ∧ (m' = items.length - (i + 1) ∧ ∃ al M, al[n]? = some A ∧ Rel C al ρ M σ H' ∧ P al M H' ∧ Out C al H' (dcompS vs fg tt tk tv chk n (items.drop (i + 1)) ρ M) (KE C ρ σ Q)), fun H' h => h, fun x H' hy => ?_⟩
    obtain ⟨sy, ry, hx, py⟩ := g2 x H' hy
    cases eg : fg items[i] (wipeD ρ vs) M with
    | none => rw [eg] at ho; exact ho.elim
    | some ρ2 =>
      rw [eg] at ho
      have ho' := Out.step sy ho
      dsimp only at ho'
      refine hk items[i] x al (wipeD ρ vs) ρ2 M _ H' _ (ry.wipe vs) hx eg fun σ2 q2 w2 => ⟨w2.trans (wipe_wipe vs vs σ fun _ z => z), al, ρ2, M, q2.nox, ?_⟩
      refine Out.mono (Out.nox (Out.bind ho')) fun b al3 M3 H3 s3 h3 r3 => ?_
      cases b with
      | false =>
        rw [if_neg (by simp)] at h3 ⊢
        split at h3
        · rename_i hck
          have hA3 : al3[n]? = some A := s3.le (C := C) |>.lc n A hA'
          exact ⟨items.length - (i + 1), by omega, rfl, al3, M3, hA3, ry.to s3 r3.unnox.toCells, pst _ _ _ _ _ _ py s3 r3.unnox.toCells hck, h3⟩
        · exact h3.elim
      | true =>
        rw [if_pos rfl] at h3 ⊢
        refine ⟨al3, ρ2, M3, r3, Out.mono (Out.nox (Out.bind h3)) fun y al4 M4 H4 s4 h4 r4 v hv => ?_⟩
        refine ⟨al4, ρ2, M4, r4, Out.mono (Out.nox (Out.bind h4)) fun z al5 M5 H5 s5 h5 r5 w hw => ?_⟩
        split at h5
        · rename_i acc k em ek
          split at h5
          · rename_i hz
            have s35 := (s3.trans s4).trans s5
            have hA5 : al5[n]? = some A := s35.le (C := C) |>.lc n A hA'
            have r5' := ry.to s35 r5.unnox.toCells
            obtain ⟨o, eo, xs, rfl, hxs⟩ := r5'.cell n A _ hA5 em
            refine ⟨xs, k, toKey_rep ek hv, eo, by rw [hxs.len]; exact hz.1, ?_⟩
            have s6 := stp_set (o := .dK (putK xs k w)) r5'.toCells (List.mem_of_getElem? hA5)
            have r6 := r5'.cell_set (d := .dct (setK acc k z)) (o := .dK (putK xs k w)) hA5 ⟨_, rfl, RepK.put k hxs hw⟩
            exact ⟨items.length - (i + 1), by omega, rfl, al5, _, hA5, r6, pst _ _ _ _ _ _ py (s35.trans s6) r6.toCells hz.2, Out.step s6 h5⟩
          · exact h5.elim
        · exact h5.elim
  · left
    have hle : items.length ≤ i := Nat.le_of_not_lt hi
    rw [List.drop_eq_nil_of_le hle] at ho
    exact ⟨pend i al ρ M σ H p r hle, Out.here ho r _ ⟨A, rfl, hA'⟩⟩
theorem tD_dc {vs : List Nat} {fg : FG} {g : TG} {tt : FT} {tk tv : FE} {fi : FI} (hk : KGc C fg g vs) : ∀ σ H Q, tD C (eDc fi vs fg tt tk tv) σ H Q → tDc (tI C fi) g (tT C.nox tt) (tD C.nox tk) (tD C.nox tv) vs σ H Q := by
  rintro σ H Q ⟨al, ρ, M, rl, h⟩
  refine ⟨al, ρ, M, rl, Out.mono (Out.bind h) fun ic al1 M1 H1 s1 h1 r1 J hJ => ?_⟩
  split at h1
  · rename_i hck
    exact dc_ok hk r1 hJ (Out.unC r1 h1) hck
  · exact h1.elim
theorem pd_dc {kx vx : Expr} {tk tv : FE} (hc : X.calm = true) (hN : X.N.Nodup) (hi : PDI C X tg iter fi) (hk : KGc C fg g (own.map (·.2))) (ok : BlkOk X.N X.env.scope scope own)
    (hg : ∀ (s : Shared) (H : Hp) (A : Addr) (cl : List (Str × Addr)) (fp : List Addr), PG (X.blk s H scope (compEnvC scope cl A X.env) fp) tg g) (ht : ∀ (s : Shared) (H : Hp) (A : Addr) (cl : List (Str × Addr)) (fp : List Addr), PTs (X.blk s H scope (compEnvC scope cl A X.env) fp) ifs (tT C.nox tt))
    (hkx : ∀ (s : Shared) (H : Hp) (A : Addr) (cl : List (Str × Addr)) (fp : List Addr), PD C.nox (X.blk s H scope (compEnvC scope cl A X.env) fp) kx tk)
    (hvx : ∀ (s : Shared) (H : Hp) (A : Addr) (cl : List (Str × Addr)) (fp : List Addr), PD C.nox (X.blk s H scope (compEnvC scope cl A X.env) fp) vx tv) (hs : ∀ x, foldedSetIterable iter X.env x = pure x := by intro _; rfl) :
    PD C X (.DictComp kx vx [⟨tg, iter, ifs, 0⟩] scope pos) (eDc fi (own.map (·.2)) fg tt tk tv) := PE.wk (pe_dc hc hN hi.i ok hg ht hkx hvx hs) (tD_dc hk)
end
end LL
namespace LL
open PySem L2
section
variable {C : Fc} {X : Cx} {al al' : List Addr} {ρ : List D} {M M' : Mem} {σ : L2.St} {H H' : Hp} {fe : FE} {tg : Expr}
theorem PI.or {iter : Expr} {t u : TI} (h : PI X tg iter t) (k : PI X tg iter u) : PI X tg iter (fun σ H Q => t σ H Q ∨ u σ H Q) := ⟨fun p s σ H Q I q => q.elim (h.run p s σ H Q I) (k.run p s σ H Q I)⟩
theorem PE.or {e : Expr} {t u : TE} (h : PE X e t) (k : PE X e u) : PE X e (fun σ H Q => t σ H Q ∨ u σ H Q) := ⟨fun p s σ H Q I q => q.elim (h.run p s σ H Q I) (k.run p s σ H Q I)⟩
theorem PS.or {e : Stmt} {t u : TS} (h : PS X e t) (k : PS X e u) : PS X e (fun D σ H => t D σ H ∨ u D σ H) := ⟨fun p s σ H Q I q => q.elim (h.run p s σ H Q I) (k.run p s σ H Q I)⟩
/-- the items of a list, a tuple, a text, the script -/
def itemsB : D → Option (List D)
  | .t (.lst ds) => some (ds.map .t)
  | .t (.tup ds) => some (ds.map .t)
  | .t (.str z) => some (z.cps.toList.map fun c => .t (.str ⟨#[c]⟩))
  | .t (.scr ns) => some (ns.map fun n => .t (.int n))
  | _ => none
def iAny (f : FE) : FI := fun ρ M => (f ρ M).bind fun d M1 => match itemsB d with | some ds => .ok (ds, fun _ => true) M1 | none => .bad
theorem its_ok {z : Str} : ItOk C (Its z) (z.cps.toList.map fun c => .t (.str ⟨#[c]⟩)) (fun _ => true) al M H := by
  refine ⟨fun _ _ _ => True, trivial, fun _ _ _ _ _ _ _ _ _ _ => trivial, fun n d al ρ M σ H _ r hd => ?_, fun n al ρ M σ H _ r hi => ?_⟩
  · rw [List.getElem?_map, Array.getElem?_toList] at hd
    cases en : z.cps[n]? with
    | none => rw [en] at hd; cases hd
    | some c =>
      rw [en] at hd
      cases hd
      refine ⟨(Array.getElem?_eq_some_iff.1 en).1, ?_⟩
      rintro y H' ⟨rfl, c', ec, rfl⟩
      rw [en] at ec
      cases ec
      exact ⟨Stp.refl _ _, r, by simp only [Rep, RepT], trivial⟩
  · rw [List.length_map, Array.length_toList] at hi
    exact hi
theorem pi_anyD (hK : X.K = C.K) {l : Expr} (hl : PD C X l fe) : PDI C X tg l (iAny fe) := ⟨by
  refine PI.wk (PI.or (pi_list hl) (PI.or (pi_tup hl) (pi_str hl))) ?_
  rintro σ H Rr ⟨al, ρ, M, rl, h⟩
  cases e : fe ρ M with
  | bad => simp only [iAny, e, R.bind] at h; exact h.elim
  | exc x M1 =>
    refine .inl ⟨al, ρ, M, rl, ?_⟩
    simp only [iAny, e, R.bind] at h
    rw [e]; exact h
  | ok d M1 =>
    simp only [iAny, e, R.bind] at h
    unfold itemsB at h
    split at h
    · rename_i ds hds
      split at hds
      · cases hds
        refine .inl ⟨al, ρ, M, rl, ?_⟩
        rw [e]
        intro al1 H1 s1 r1 v hv
        simp only [Rep, RepT] at hv
        obtain ⟨a, xs, rfl, g1, g2, g3⟩ := hv
        exact ⟨a, rfl, ⟨xs, SqL.of g1⟩, h al1 H1 s1 r1 _ (itl_ok hK g1 g2 g3)⟩
      · cases hds
        refine .inr (.inl ⟨al, ρ, M, rl, ?_⟩)
        rw [e]
        intro al1 H1 s1 r1 v hv
        obtain ⟨a, xs, rfl, g1, g3⟩ := rep_tup hv
        exact ⟨a, rfl, ⟨xs, by rw [hK]; exact g1⟩, h al1 H1 s1 r1 _ (itt_ok hK g1 g3)⟩
      · cases hds
        refine .inr (.inr ⟨al, ρ, M, rl, ?_⟩)
        rw [e]
        intro al1 H1 s1 r1 v hv
        exact ⟨_, rep_str hv, h al1 H1 s1 r1 _ its_ok⟩
      · cases hds
        refine .inl ⟨al, ρ, M, rl, ?_⟩
        rw [e]
        intro al1 H1 s1 r1 v hv
        rename_i ns
        simp only [Rep, RepT] at hv
        obtain ⟨a, rfl, g⟩ := hv
        have g' : SqL X.K H1 a (ns.map V.int) := by
          rw [hK]
          exact g.elim (fun h => .inl h.1) fun h => h _
        exact ⟨a, rfl, ⟨_, g'⟩, h al1 H1 s1 r1 _ (sqInts hK g)⟩
      · cases hds
    · exact h.elim⟩
def enumT : Nat → List T → List T
  | _, [] => []
  | n, x :: r => .tup [.int n, x] :: enumT (n + 1) r
theorem enumT_get : ∀ (ds : List T) (n i : Nat), (enumT n ds)[i]? = (ds[i]?).map fun x => .tup [.int ((n + i : Nat) : Int), x]
  | [], _, _ => by simp [enumT]
  | x :: r, n, 0 => by simp [enumT]
  | x :: r, n, i + 1 => by simp only [enumT, List.getElem?_cons_succ, enumT_get r (n + 1) i, show n + 1 + i = n + (i + 1) by omega]
theorem enumT_len : ∀ (ds : List T) (n : Nat), (enumT n ds).length = ds.length
  | [], _ => rfl
  | x :: r, n => by simp only [enumT, List.length_cons, enumT_len r (n + 1)]
def iEnumD (f : FA) : FI := fun ρ M => (f ρ M).bind fun ds M1 => match ds with
  | [.t (.lst ts)] => .ok ((enumT 0 ts).map .t, fun _ => true) M1
  | _ => .bad
theorem ite_ok {K : PySem.W.Frag} (hK : K = C.K) {a : Addr} {xs : List V} {ds : List T} {M : Mem} (h1 : H a = some (.lst xs)) (ok : (C.cr al H).ok a) (h2 : RepTs (C.cr al H) ds xs) : ItOk C (Ite K a) ((enumT 0 ds).map .t) (fun _ => true) al M H := by
  refine ⟨fun al' _ H' => H' a = some (.lst xs) ∧ (C.cr al' H').ok a ∧ RepTs (C.cr al' H') ds xs, ⟨h1, ok, h2⟩, fun al M H al' M' H' p s c _ => ?_, fun i d al ρ M σ H p r hd => ?_, fun i al ρ M σ H p r hi => ?_⟩
  · have := (s.le (C := C)).ls a xs p.1 p.2.1
    exact ⟨this.1, this.2, RepTs.le s.le.toLeT p.2.2⟩
  · rw [List.getElem?_map, enumT_get] at hd
    cases en : ds[i]? with
    | none => rw [en] at hd; cases hd
    | some y =>
      rw [en] at hd
      cases hd
      obtain ⟨x, e1, e2⟩ := (RepL.ofT p.2.2).get (i := i) (d := .t y) (by rw [List.getElem?_map, en]; rfl)
      refine ⟨⟨xs, x, SqL.of p.1, e1⟩, ?_⟩
      rintro v H' ⟨A, x', rfl, hA, rfl, hy⟩
      have e3 := hy xs (SqL.of p.1)
      rw [e1] at e3
      cases e3
      have s := stp_new (o := .tup [.int (i : Nat), x]) r.toCells hA
      refine ⟨s, r.new hA, ?_, ?_⟩
      · refine r.newT (ds := [.int ((0 + i : Nat) : Int), y]) (xs := [.int (i : Nat), x]) hA ?_
        simp only [RepTs, RepT, Nat.zero_add]
        exact ⟨_, _, rfl, rfl, x, [], rfl, e2, rfl⟩
      · have := (s.le (C := C)).ls a xs p.1 p.2.1
        exact ⟨this.1, this.2, RepTs.le s.le.toLeT p.2.2⟩
  · rw [List.length_map, enumT_len] at hi
    exact ⟨xs, SqL.of p.1, by rw [p.2.2.len]; exact hi⟩
theorem pi_enumD (hK : X.K = C.K) {e : Expr} {fa : FA} {p pos tpos : Pos} {elts : List Expr} {kk : Nat} (hg : Gl X "enumerate") (hm : X.mg "enumerate" = none) (ha : PDA C X [e] fa) (hs : starEach [e] X.env = [(false, eval e X.env)] := by rfl) :
    PDI C X (.Tuple elts kk tpos) (.Call (.Name "enumerate" p) [e] [] pos) (iEnumD fa) := ⟨by
  refine PI.wk (pi_enum hg hm ha hs) ?_
  rintro σ H Rr ⟨al, ρ, M, rl, h⟩
  refine ⟨al, ρ, M, rl, Out.mono (Out.bind h) fun ds al1 M1 H1 s1 h1 r1 vs hv => ?_⟩
  split at h1
  · obtain ⟨v, t, rfl, g1, g2⟩ := hv
    cases g2
    simp only [Rep, RepT] at g1
    obtain ⟨a, xs, rfl, g3, g4, g5⟩ := g1
    exact ⟨a, xs, rfl, SqL.of g3, Out.here h1 r1 _ (ite_ok hK g3 g4 g5)⟩
  · exact h1.elim⟩
def zipT : List T → List T → List T
  | x :: xs, y :: ys => .tup [x, y] :: zipT xs ys
  | _, _ => []
theorem zipT_get : ∀ (xs ys : List T) (i : Nat), (zipT xs ys)[i]? = match xs[i]?, ys[i]? with | some x, some y => some (.tup [x, y]) | _, _ => none
  | [], _, _ => by simp [zipT]
  | _ :: _, [], i => by simp only [zipT, List.getElem?_nil]; split <;> simp_all
  | x :: xs, y :: ys, 0 => by simp [zipT]
  | x :: xs, y :: ys, i + 1 => by simp only [zipT, List.getElem?_cons_succ, zipT_get xs ys i]
theorem zipT_len : ∀ (xs ys : List T), (zipT xs ys).length = min xs.length ys.length
  | [], _ => by simp [zipT]
  | _ :: _, [] => by simp [zipT]
  | x :: xs, y :: ys => by simp only [zipT, List.length_cons, zipT_len xs ys]; omega
def iZipD (f : FA) : FI := fun ρ M => (f ρ M).bind fun ds M1 => match ds with
  | [.t (.lst ts), .t (.lst us)] => .ok ((zipT ts us).map .t, fun _ => true) M1
  | _ => .bad
theorem itz_ok {K : PySem.W.Frag} (hK : K = C.K) {a b : Addr} {xs ys : List V} {ds es : List T} {M : Mem} (h1 : H a = some (.lst xs)) (ok : (C.cr al H).ok a) (h2 : RepTs (C.cr al H) ds xs) (k1 : H b = some (.lst ys)) (okb : (C.cr al H).ok b) (k2 : RepTs (C.cr al H) es ys) :
    ItOk C (Itz K a b) ((zipT ds es).map .t) (fun _ => true) al M H := by
  refine ⟨fun al' _ H' => (H' a = some (.lst xs) ∧ (C.cr al' H').ok a ∧ RepTs (C.cr al' H') ds xs) ∧ (H' b = some (.lst ys) ∧ (C.cr al' H').ok b ∧ RepTs (C.cr al' H') es ys), ⟨⟨h1, ok, h2⟩, k1, okb, k2⟩, fun al M H al' M' H' p s c _ => ?_, fun i d al ρ M σ H p r hd => ?_, fun i al ρ M σ H p r hi => ?_⟩
  · have f1 := (s.le (C := C)).ls a xs p.1.1 p.1.2.1
    have f2 := (s.le (C := C)).ls b ys p.2.1 p.2.2.1
    exact ⟨⟨f1.1, f1.2, RepTs.le s.le.toLeT p.1.2.2⟩, f2.1, f2.2, RepTs.le s.le.toLeT p.2.2.2⟩
  · rw [List.getElem?_map, zipT_get] at hd
    cases en : ds[i]? with
    | none => rw [en] at hd; cases hd
    | some y =>
      cases em : es[i]? with
      | none => rw [en, em] at hd; cases hd
      | some z =>
        rw [en, em] at hd
        cases hd
        obtain ⟨x, e1, e2⟩ := (RepL.ofT p.1.2.2).get (i := i) (d := .t y) (by rw [List.getElem?_map, en]; rfl)
        obtain ⟨u, f1, f2⟩ := (RepL.ofT p.2.2.2).get (i := i) (d := .t z) (by rw [List.getElem?_map, em]; rfl)
        refine ⟨⟨xs, ys, x, u, SqL.of p.1.1, SqL.of p.2.1, e1, f1⟩, ?_⟩
        rintro v H' ⟨A, x', u', rfl, hA, rfl, hy, hz⟩
        have e3 := hy xs (SqL.of p.1.1)
        have f3 := hz ys (SqL.of p.2.1)
        rw [e1] at e3
        rw [f1] at f3
        cases e3
        cases f3
        have s := stp_new (o := .tup [x, u]) r.toCells hA
        refine ⟨s, r.new hA, ?_, ?_⟩
        · refine r.newT (ds := [y, z]) (xs := [x, u]) hA ?_
          simp only [RepTs]
          exact ⟨x, _, rfl, e2, u, [], rfl, f2, rfl⟩
        · have f1 := (s.le (C := C)).ls a xs p.1.1 p.1.2.1
          have f2 := (s.le (C := C)).ls b ys p.2.1 p.2.2.1
          exact ⟨⟨f1.1, f1.2, RepTs.le s.le.toLeT p.1.2.2⟩, f2.1, f2.2, RepTs.le s.le.toLeT p.2.2.2⟩
  · rw [List.length_map, zipT_len] at hi
    refine ⟨xs, ys, SqL.of p.1.1, SqL.of p.2.1, ?_⟩
    rw [p.1.2.2.len, p.2.2.2.len]
    omega
theorem pi_zipD (hK : X.K = C.K) {e e2 : Expr} {fa : FA} {p pos tpos : Pos} {elts : List Expr} {kk : Nat} (hg : Gl X "zip") (hm : X.mg "zip" = none) (ha : PDA C X [e, e2] fa)
    (hs : starEach [e, e2] X.env = (false, eval e X.env) :: starEach [e2] X.env := by rfl) (hpl : (backTo pos (starEach [e2] X.env)).any (·.1) = false := by rfl) :
    PDI C X (.Tuple elts kk tpos) (.Call (.Name "zip" p) [e, e2] [] pos) (iZipD fa) := ⟨by
  refine PI.wk (pi_zip hg hm ha hs hpl) ?_
  rintro σ H Rr ⟨al, ρ, M, rl, h⟩
  refine ⟨al, ρ, M, rl, Out.mono (Out.bind h) fun ds al1 M1 H1 s1 h1 r1 vs hv => ?_⟩
  split at h1
  · obtain ⟨v, t, rfl, g1, g2⟩ := hv
    obtain ⟨w, t2, rfl, g6, g7⟩ := g2
    cases g7
    simp only [Rep, RepT] at g1 g6
    obtain ⟨a, xs, rfl, g3, g4, g5⟩ := g1
    obtain ⟨b, ys, rfl, k3, k4, k5⟩ := g6
    exact ⟨a, b, xs, ys, rfl, SqL.of g3, SqL.of k3, Out.here h1 r1 _ (itz_ok hK g3 g4 g5 k3 k4 k5)⟩
  · exact h1.elim⟩
theorem le_lock {d : Addr} {ws : List (Key × V)} {od : Obj} (hd : H d = some (.dK ws)) : LeT (C.cr al H) (C.cr al (upd H d (.frz od (.dK ws)))) := by
  have ne : ∀ a o, H a = some o → (∀ vs, o ≠ .dK vs) → upd H d (.frz od (.dK ws)) a = some o := fun a o e h => by
    rw [upd_ne (ne_of e hd (h ws))]; exact e
  refine ⟨rfl, rfl, fun a xs e o => ⟨ne a _ e (fun _ z => (nomatch z)), o⟩, fun a vs e o => ⟨?_, o⟩, fun a c dx vs e o => ⟨ne a _ e (fun _ z => (nomatch z)), o⟩, fun a xs e => ?_, fun a xs e o => ⟨?_, o⟩⟩
  · by_cases ha : a = d
    · subst ha
      rcases e with e | ⟨ob, e⟩
      · have e : H a = some (.dK vs) := e
        rw [hd] at e; cases e
        exact .inr ⟨od, upd_same⟩
      · have e : H a = some (.frz ob (.dK vs)) := e
        rw [hd] at e; cases e
    · rcases e with e | ⟨ob, e⟩
      · exact .inl (by show upd _ _ _ a = _; rw [upd_ne ha]; exact e)
      · exact .inr ⟨ob, by show upd _ _ _ a = _; rw [upd_ne ha]; exact e⟩
  · rcases e with e | ⟨ob, e⟩
    · exact .inl (ne a _ e (fun _ z => (nomatch z)))
    · exact .inr ⟨ob, ne a _ e (fun _ z => (nomatch z))⟩
  · rcases e with e | ⟨ob, e⟩
    · exact .inl (ne a _ e (fun _ z => (nomatch z)))
    · exact .inr ⟨ob, ne a _ e (fun _ z => (nomatch z))⟩
theorem le_unlock {d : Addr} {ws : List (Key × V)} {od : Obj} (hd : H d = some (.frz od (.dK ws))) : LeT (C.cr al H) (C.cr al (upd H d (.dK ws))) := by
  have ne : ∀ a o, H a = some o → o ≠ .frz od (.dK ws) → upd H d (.dK ws) a = some o := fun a o e h => by
    rw [upd_ne (ne_of e hd h)]; exact e
  refine ⟨rfl, rfl, fun a xs e o => ⟨ne a _ e (fun z => (nomatch z)), o⟩, fun a vs e o => ⟨?_, o⟩, fun a c dx vs e o => ⟨ne a _ e (fun z => (nomatch z)), o⟩, fun a xs e => ?_, fun a xs e o => ⟨?_, o⟩⟩
  · by_cases ha : a = d
    · subst ha
      rcases e with e | ⟨ob, e⟩
      · have e : H a = some (.dK vs) := e
        rw [hd] at e; cases e
      · have e : H a = some (.frz ob (.dK vs)) := e
        rw [hd] at e; cases e
        exact .inl upd_same
    · rcases e with e | ⟨ob, e⟩
      · exact .inl (by show upd _ _ _ a = _; rw [upd_ne ha]; exact e)
      · exact .inr ⟨ob, by show upd _ _ _ a = _; rw [upd_ne ha]; exact e⟩
  · rcases e with e | ⟨ob, e⟩
    · exact .inl (ne a _ e (fun z => (nomatch z)))
    · exact .inr ⟨ob, ne a _ e (fun z => (nomatch z))⟩
  · rcases e with e | ⟨ob, e⟩
    · exact .inl (ne a _ e (fun z => (nomatch z)))
    · exact .inr ⟨ob, ne a _ e (fun z => (nomatch z))⟩
theorem Rel.swap {d : Addr} {o : HO} (r : Rel C al ρ M σ H) (hd : d ∉ al) (hn : H d ≠ none) (L : LeT (C.cr al H) (C.cr al (upd H d o))) : Rel C al ρ M σ (upd H d o) := by
  have L' : Le (C.cr al H) (C.cr al (upd H d o)) := ⟨L, fun n a e => e⟩
  refine ⟨⟨r.len, r.nd, fun n a c h1 h2 => ?_, fun a e => ?_⟩, r.sl, fun i x h hu => ?_⟩
  · obtain ⟨u, e1, e2⟩ := r.cell n a c h1 h2
    refine ⟨u, ?_, e2.le L'⟩
    show upd H d o a = some u
    rw [upd_ne (fun z : a = d => hd (z ▸ List.mem_of_getElem? h1))]; exact e1
  · by_cases ha : a = d
    · subst ha; rw [upd_same] at e; cases e
    · rw [upd_ne ha] at e; exact r.dom a e
  · obtain ⟨v, h1, h2⟩ := r.slot i x h hu
    exact ⟨v, h1, Rep.le L' h2⟩
theorem Stp.lock {d : Addr} {ws : List (Key × V)} {od : Obj} (hd : H d = some (.dK ws)) (hn : d ∉ al) (s : Stp al (upd H d (.frz od (.dK ws))) al' H') : Stp al H al' (upd H' d (.dK ws)) ∧ H' d = some (.frz od (.dK ws)) := by
  have h1 : H' d = some (.frz od (.dK ws)) := s.keep d _ hn upd_same
  obtain ⟨be, e, nb⟩ := s.pre
  refine ⟨⟨⟨be, e, fun a ha => ?_⟩, fun a o ha eo => ?_, fun a xs hx => ?_, fun a ha => ?_⟩, h1⟩
  · have := nb a ha
    by_cases z : a = d
    · subst z; rw [upd_same] at this; cases this
    · rw [upd_ne z] at this; exact this
  · by_cases z : a = d
    · subst z
      rw [hd] at eo; cases eo
      exact upd_same
    · rw [upd_ne z]
      exact s.keep a o ha (by rw [upd_ne z]; exact eo)
  · have h2 : Rd (upd H d (.frz od (.dK ws))) a (.tup xs) := by
      rcases hx with hx | ⟨ob, hx⟩
      · exact .inl (by rw [upd_ne (ne_of hx hd (fun z => (nomatch z)))]; exact hx)
      · exact .inr ⟨ob, by rw [upd_ne (ne_of hx hd (fun z => (nomatch z)))]; exact hx⟩
    rcases s.tup a xs h2 with h3 | ⟨ob, h3⟩
    · exact .inl (by rw [upd_ne (ne_of h3 h1 (fun z => (nomatch z)))]; exact h3)
    · exact .inr ⟨ob, by rw [upd_ne (ne_of h3 h1 (fun z => (nomatch z)))]; exact h3⟩
  · by_cases z : a = d
    · subst z; rw [upd_same]; simp
    · rw [upd_ne z]
      exact s.dom a (by rw [upd_ne z]; exact ha)
theorem itk_ok {d : Addr} {ws : List (Key × V)} {od : Obj} {kvs : List (Key × T)} (hd : H d = some (.frz od (.dK ws))) (hn : d ∉ al) (hk : ws.map (·.1) = kvs.map (·.1)) : ItOk C (Itk d od ws) (kvs.map fun kv => .t (ofKey kv.1)) (fun _ => true) al M H := by
  have hl : ws.length = kvs.length := by have := congrArg List.length hk; simpa using this
  refine ⟨fun al' _ H' => H' d = some (.frz od (.dK ws)) ∧ d ∉ al', ⟨hd, hn⟩, fun al M H al' M' H' p s c _ => ⟨s.keep d _ p.2 p.1, ?_⟩, fun n x al ρ M σ H p r hx => ?_, fun n al ρ M σ H p r hi => ?_⟩
  · obtain ⟨be, e, nb⟩ := s.pre
    subst e
    intro z
    rcases List.mem_append.1 z with z | z
    · exact p.2 z
    · have := nb d z
      rw [p.1] at this; cases this
  · have hxl : n < kvs.length := by
      have := (List.getElem?_eq_some_iff.1 hx).1
      rw [List.length_map] at this; exact this
    rw [List.getElem?_map] at hx
    refine ⟨⟨p.1, by omega⟩, ?_⟩
    rintro y H' ⟨rfl, k, v, ek, rfl⟩
    have e1 : (ws.map (·.1))[n]? = some k := by rw [List.getElem?_map, ek]; rfl
    rw [hk, List.getElem?_map] at e1
    cases en : kvs[n]? with
    | none => rw [en] at hx; cases hx
    | some kv =>
      rw [en] at hx e1
      cases hx
      cases e1
      exact ⟨Stp.refl _ _, r, rep_key _, p⟩
  · rw [List.length_map] at hi
    exact ⟨p.1, by omega⟩
/-- a comprehension over the keys of the dict in slot j -/
def eLcK (j : Nat) (vs : List Nat) (g : FG) (tt : FT) (te : FE) : FE := fun ρ M => match ρ[j]? with
  | some (.t (.dct kvs)) => nb (unC M.length (compS vs g tt te (fun _ => true) M.length (kvs.map fun kv => .t (ofKey kv.1)) ρ (M ++ [.lst []])))
  | _ => .bad
theorem repTk_keys {c : Cr} {kvs : List (Key × T)} {ws : List (Key × V)} (h : RepTk c kvs ws) : ws.map (·.1) = kvs.map (·.1) := by
  rw [(RepK.ofT h).keys, List.map_map]; rfl
theorem tD_lcK {j : Nat} {vs : List Nat} {fg : FG} {g : TG} {tt : FT} {te : FE} (hk : KGc C fg g vs) : ∀ σ H Q, tD C (eLcK j vs fg tt te) σ H Q →
    tLockE (tLc (iKeys (tVar j)) g (tT C.nox tt) (tD C.nox te) vs) σ H Q ∨ tLc (iKeys (tVar j)) g (tT C.nox tt) (tD C.nox te) vs σ H Q := by
  rintro σ H Q ⟨al, ρ, M, rl, h⟩
  unfold eLcK at h
  split at h
  · rename_i kvs ej
    obtain ⟨v, hv, hr⟩ := rl.slot j _ ej (by intro z; cases z)
    simp only [Rep, RepT] at hr
    obtain ⟨d, ws, rfl, hd, ok, hw⟩ := hr
    have hkeys := repTk_keys hw
    have hnx : ∀ {r : R D} {k : D → List Addr → Mem → Hp → Prop} {al : List Addr} {H : Hp}, Out C al H (nb r) k → Out C al H r k := fun {r k al H} h => by
      cases r with
      | ok d M => exact h
      | exc e M => exact h.elim
      | bad => exact h
    rcases hd with hd | ⟨od, hd⟩
    · left
      have hd : H d = some (.dK ws) := hd
      refine ⟨d, _, hd, trivial, fun od => ?_⟩
      have rL : Rel C al ρ M σ (upd H d (.frz od (.dK ws))) := rl.swap ok.1 (by rw [hd]; simp) (le_lock hd)
      refine ⟨_, hv, d, od, rfl, .inl ⟨ws, upd_same, ?_⟩⟩
      refine lc_ok (tt := tt) (te := te) (Q := fun v H' => H' d = some (.frz od (.dK ws)) ∧ Q v (upd H' d (.dK ws))) hk rL (itk_ok (kvs := kvs) upd_same ok.1 hkeys) ?_ rfl
      refine Out.unC rL ?_
      cases er : unC M.length (compS vs fg tt te (fun _ => true) M.length (kvs.map fun kv => .t (ofKey kv.1)) ρ (M ++ [.lst []])) with
      | bad => rw [er] at h; exact h.elim
      | exc e M' => rw [er] at h; exact h.elim
      | ok x M' =>
        rw [er] at h
        intro al' H' s r' v' hv'
        obtain ⟨s', h'd⟩ := Stp.lock hd ok.1 s
        have hna : d ∉ al' := by
          obtain ⟨be, e, nb⟩ := s.pre
          subst e
          intro z
          rcases List.mem_append.1 z with z | z
          · exact ok.1 z
          · have := nb d z
            rw [upd_same] at this; cases this
        exact ⟨h'd, h al' _ s' (r'.swap hna (by rw [h'd]; simp) (le_unlock h'd)) v' (Rep.le ⟨le_unlock h'd, fun n a e => e⟩ hv')⟩
    · right
      have hd : H d = some (.frz od (.dK ws)) := hd
      refine ⟨_, hv, d, od, rfl, .inl ⟨ws, hd, ?_⟩⟩
      exact lc_ok hk rl (itk_ok (kvs := kvs) hd ok.1 hkeys) (Out.unC rl (hnx h)) rfl
  · exact h.elim
theorem pd_lcK {elt : Expr} {ifs : List Expr} {scope : Scope} {own : List (Str × Nat)} {pos p1 : Pos} {x : Str} {j : Nat} {fg : FG} {g : TG} {tt : FT} {te : FE} (hc : X.calm = true) (hN : X.N.Nodup) (hj : X.N[j]? = some x) (hv : Vis X.env.scope x) (hk : KGc C fg g (own.map (·.2))) (ok : BlkOk X.N X.env.scope scope own)
    (hg : ∀ (s : Shared) (H : Hp) (A : Addr) (cl : List (Str × Addr)) (fp : List Addr), PG (X.blk s H scope (compEnvC scope cl A X.env) fp) tg g) (ht : ∀ (s : Shared) (H : Hp) (A : Addr) (cl : List (Str × Addr)) (fp : List Addr), PTs (X.blk s H scope (compEnvC scope cl A X.env) fp) ifs (tT C.nox tt))
    (he : ∀ (s : Shared) (H : Hp) (A : Addr) (cl : List (Str × Addr)) (fp : List Addr), PD C.nox (X.blk s H scope (compEnvC scope cl A X.env) fp) elt te) (hd1 : (x == ("__debug__" : Str)) = false := by decide) (hd2 : (x == ("__classdict__" : Str)) = false := by decide) (hs : ∀ y, foldedSetIterable (.Name x p1) X.env y = pure y := by intro _; rfl) :
    PD C X (.ListComp elt [⟨tg, .Name x p1, ifs, 0⟩] scope pos) (eLcK j (own.map (·.2)) fg tt te) := by
  have h := pe_lc (pos := pos) (elt := elt) (ifs := ifs) hc hN (pi_keys (tg := tg) (pe_var (pos := p1) hj hv hd1 hd2)) ok hg ht he hs
  exact PE.wk (PE.or (pe_lock h) h) (tD_lcK hk)
end
end LL
namespace LL
open PySem L2
/-- the number of a cell that is a list, a dict -/
def lcell (M : Mem) : D → Option Nat
  | .loc n => match M[n]? with | some (.lst _) => some n | _ => none
  | _ => none
theorem lcell_eq {M : Mem} {o : D} {n : Nat} (h : lcell M o = some n) : o = .loc n ∧ ∃ ds, M[n]? = some (.lst ds) := by
  unfold lcell at h
  split at h
  · split at h
    · rename_i e; cases h; exact ⟨rfl, _, e⟩
    · cases h
  · cases h
section
variable {C : Fc} {X : Cx} {o e f' : Expr} {fo fe fd : FE} {apos cpos pos : Pos}
theorem out_set {al : List Addr} {ρ : List D} {M : Mem} {σ : L2.St} {H : Hp} {Q : VK} {n : Nat} {a : Addr} {c : Cel} {ob : HO} {d : D} {v : V} (r : Rel C al ρ M σ H) (hn : al[n]? = some a) (hc : CellO (C.cr al H) c ob) (hv : Rep (C.cr al (upd H a ob)) d v) (h : Out C al H (R.ok d (M.set n c)) (KE C ρ σ Q)) : Q v (upd H a ob) :=
  h al _ (stp_set r.toCells (List.mem_of_getElem? hn)) (r.cell_set hn hc) _ hv
/-- a method of a list cell with one argument -/
def eLm (F : Nat → List D → D → Mem → R D) (fo fe : FE) : FE := fun ρ M => (fo ρ M).bind fun o M1 => match lcell M1 o with
  | some n => (fe ρ M1).bind fun v M2 => match M2[n]? with | some (.lst ds) => F n ds v M2 | _ => .bad
  | none => .bad
def LmS (C : Fc) (r : V → List V → Hp → VK → Prop) (F : Nat → List D → D → Mem → R D) : Prop := ∀ al ρ M σ H Q n a ds xs v y, Rel C al ρ M σ H → al[n]? = some a → M[n]? = some (.lst ds) → H a = some (.lst xs) → RepL (C.cr al H) ds xs → Rep (C.cr al H) v y → Out C al H (F n ds v M) (KE C ρ σ Q) → r (.ref a) [y] H Q
theorem tD_lm {r : V → List V → Hp → VK → Prop} {F : Nat → List D → D → Mem → R D} (hs : LmS C r F) : ∀ σ H Q, tD C (eLm F fo fe) σ H Q → tBM C.K "list" r (tD C fo) (tCons (tD C fe) tNil) σ H Q := by
  rintro σ H Q ⟨al, ρ, M, rl, h⟩
  refine ⟨al, ρ, M, rl, Out.mono (Out.bind h) fun d al1 M1 H1 s1 h1 r1 x hx => ?_⟩
  split at h1
  · rename_i n hn
    obtain ⟨rfl, ds, em⟩ := lcell_eq hn
    obtain ⟨a, rfl, ha⟩ := hx
    obtain ⟨ob, eo, xs, rfl, hxs⟩ := r1.cell n a _ ha em
    refine ⟨.inl ⟨rfl, xs, SqL.of eo⟩, al1, ρ, M1, r1, Out.mono (Out.bind h1) fun v al2 M2 H2 s2 h2 r2 y hy => ?_⟩
    show r (.ref a) [y] H2 Q
    split at h2
    · rename_i ds2 em2
      have ha2 : al2[n]? = some a := s2.le (C := C) |>.lc n a ha
      obtain ⟨ob2, eo2, xs2, rfl, hxs2⟩ := r2.cell n a _ ha2 em2
      exact hs al2 ρ M2 σ H2 Q n a ds2 xs2 v y r2 ha2 em2 eo2 hxs2 hy h2
    · exact h2.elim
  · exact h1.elim
theorem pd_lm (hK : X.K = C.K) {name : Str} {id : String} {r : V → List V → Hp → VK → Prop} {F : Nat → List D → D → Mem → R D} (hs : LmS C r F) (slot : Slot "list" name id) (hty : typeOf (.builtin id) = pure (.type "method_descriptor")) (hm : MtR X id r) (ho : PD C X o fo) (he : PD C X e fe) (hst : starEach [e] X.env = (false, eval e X.env) :: starEach [] X.env := by rfl)
    (hbase : attributeBase o name X.env (eval o X.env) = eval o X.env := by rfl)
    (hfew : ((backTo cpos (starEach [e] X.env)).all (fun x => !x.1) && (backToKw cpos (keywordEach [] X.env)).all (fun x => x.1.isSome) && decide (([e] : List Expr).length + ([] : List Keyword).length + (if ([] : List Keyword).isEmpty then 0 else 1) < 30)) = true := by rfl)
    (hline : (apos.endLine == cpos.line) = true := by rfl) (hplain : (backTo cpos (starEach [] X.env)).any (·.1) = false := by rfl) : PD C X (.Call (.Attribute o name apos) [e] [] cpos) (eLm F fo fe) := by
  refine PE.wk (pe_bm PySem.F.plainAttrs_list slot hty hm ho (pa_cons he pa_nil hst) hbase hfew hline hst hplain) ?_
  rw [hK]
  exact tD_lm hs
def mAppend : Nat → List D → D → Mem → R D := fun n ds v M => if ds.length < sizeLine then .ok (.t .non) (M.set n (.lst (ds ++ [v]))) else .bad
theorem lm_append : LmS C rAppend mAppend := by
  intro al ρ M σ H Q n a ds xs v y r ha em eo hx hy h
  unfold mAppend at h
  split at h
  · rename_i hz
    exact ⟨a, xs, y, rfl, rfl, eo, by rw [hx.len]; exact hz, out_set (c := .lst (ds ++ [v])) r ha ⟨_, rfl, hx.append (RepL.one hy)⟩ (by simp only [Rep, RepT]) h⟩
  · exact h.elim
def mExtend : Nat → List D → D → Mem → R D := fun n ds v M => match asL M v with
  | some es => if ds.length + es.length ≤ sizeLine then .ok (.t .non) (M.set n (.lst (ds ++ es))) else .bad
  | none => .bad
theorem lm_extend : LmS C rExtend mExtend := by
  intro al ρ M σ H Q n a ds xs v y r ha em eo hx hy h
  unfold mExtend at h
  split at h
  · rename_i es e1
    split at h
    · rename_i hz
      obtain ⟨b, zs, rfl, g1, g2⟩ := asL_rep r.toCells hy e1
      exact ⟨a, b, xs, zs, rfl, rfl, eo, g1, by rw [hx.len, g2.len]; exact hz, out_set (c := .lst (ds ++ es)) r ha ⟨_, rfl, hx.append g2⟩ (by simp only [Rep, RepT]) h⟩
    · exact h.elim
  · exact h.elim
def mPop : Nat → List D → D → Mem → R D := fun n ds v M => match v with
  | .t (.int i) => match seqIndex? i ds.length with
    | some k => match ds[k]? with | some d => if -(2 ^ 63) ≤ i ∧ i < 2 ^ 63 then .ok d (M.set n (.lst (ds.eraseIdx k))) else .bad | none => .bad
    | none => .bad
  | _ => .bad
theorem lm_pop : LmS C rPopAt mPop := by
  intro al ρ M σ H Q n a ds xs v y r ha em eo hx hy h
  unfold mPop at h
  split at h
  · split at h
    · rename_i k ek
      split at h
      · rename_i d ed
        split at h
        · rename_i hz
          obtain ⟨w, e1, e2⟩ := hx.get ed
          refine ⟨a, xs, _, k, w, rfl, by rw [rep_int hy], eo, hz.1, hz.2, by rw [hx.len]; exact ek, e1, ?_⟩
          refine out_set (c := .lst (ds.eraseIdx k)) r ha ⟨_, rfl, hx.erase k⟩ ?_ h
          exact Rep.le (stp_set r.toCells (List.mem_of_getElem? ha)).le e2
        · exact h.elim
      · exact h.elim
    · exact h.elim
  · exact h.elim
theorem pd_append (hK : X.K = C.K) (ho : PD C X o fo) (he : PD C X e fe) (hst : starEach [e] X.env = (false, eval e X.env) :: starEach [] X.env := by rfl)
    (hbase : attributeBase o "append" X.env (eval o X.env) = eval o X.env := by rfl)
    (hfew : ((backTo cpos (starEach [e] X.env)).all (fun x => !x.1) && (backToKw cpos (keywordEach [] X.env)).all (fun x => x.1.isSome) && decide (([e] : List Expr).length + ([] : List Keyword).length + (if ([] : List Keyword).isEmpty then 0 else 1) < 30)) = true := by rfl)
    (hline : (apos.endLine == cpos.line) = true := by rfl) (hplain : (backTo cpos (starEach [] X.env)).any (·.1) = false := by rfl) : PD C X (.Call (.Attribute o "append" apos) [e] [] cpos) (eLm mAppend fo fe) :=
  pd_lm hK lm_append PySem.F.slot_list_append PySem.F.type_list_append mt_append ho he hst hbase hfew hline hplain
theorem pd_extend (hK : X.K = C.K) (ho : PD C X o fo) (he : PD C X e fe) (hst : starEach [e] X.env = (false, eval e X.env) :: starEach [] X.env := by rfl)
    (hbase : attributeBase o "extend" X.env (eval o X.env) = eval o X.env := by rfl)
    (hfew : ((backTo cpos (starEach [e] X.env)).all (fun x => !x.1) && (backToKw cpos (keywordEach [] X.env)).all (fun x => x.1.isSome) && decide (([e] : List Expr).length + ([] : List Keyword).length + (if ([] : List Keyword).isEmpty then 0 else 1) < 30)) = true := by rfl)
    (hline : (apos.endLine == cpos.line) = true := by rfl) (hplain : (backTo cpos (starEach [] X.env)).any (·.1) = false := by rfl) : PD C X (.Call (.Attribute o "extend" apos) [e] [] cpos) (eLm mExtend fo fe) :=
  pd_lm hK lm_extend PySem.F.slot_list_extend PySem.F.type_list_extend mt_extend ho he hst hbase hfew hline hplain
theorem pd_pop (hK : X.K = C.K) (ho : PD C X o fo) (he : PD C X e fe) (hst : starEach [e] X.env = (false, eval e X.env) :: starEach [] X.env := by rfl)
    (hbase : attributeBase o "pop" X.env (eval o X.env) = eval o X.env := by rfl)
    (hfew : ((backTo cpos (starEach [e] X.env)).all (fun x => !x.1) && (backToKw cpos (keywordEach [] X.env)).all (fun x => x.1.isSome) && decide (([e] : List Expr).length + ([] : List Keyword).length + (if ([] : List Keyword).isEmpty then 0 else 1) < 30)) = true := by rfl)
    (hline : (apos.endLine == cpos.line) = true := by rfl) (hplain : (backTo cpos (starEach [] X.env)).any (·.1) = false := by rfl) : PD C X (.Call (.Attribute o "pop" apos) [e] [] cpos) (eLm mPop fo fe) :=
  pd_lm hK lm_pop PySem.F.slot_list_pop PySem.F.type_list_pop mt_popAt ho he hst hbase hfew hline hplain
def eGet (fo fe fd : FE) : FE := fun ρ M => (fo ρ M).bind fun o M1 => if (asK M1 o).isSome = true then (fe ρ M1).bind fun k M2 => (fd ρ M2).bind fun x M3 => match asK M3 o, toKey k with
    | some kvs, some k => .ok ((getK kvs k).getD x) M3
    | _, _ => .bad
  else .bad
theorem pd_get (hu : X.A.units + 64 < cLine) (ho : PD C X o fo) (he : PD C X e fe) (hd : PD C X f' fd) (m : M2 X o "get" apos e f' cpos) : PD C X (.Call (.Attribute o "get" apos) [e, f'] [] cpos) (eGet fo fe fd) := by
  refine PE.wk (pe_dget2 (by omega) ho he hd m) ?_
  rintro σ H Q ⟨al, ρ, M, rl, h⟩
  refine ⟨al, ρ, M, rl, Out.mono (Out.bind h) fun d al1 M1 H1 s1 h1 r1 x hx => ?_⟩
  split at h1
  · rename_i hz
    obtain ⟨kv1, e1⟩ := Option.isSome_iff_exists.1 hz
    obtain ⟨a, ws, rfl, g1, g2⟩ := asK_rep r1.toCells hx e1
    refine ⟨a, rfl, .inl ⟨ws, g1⟩, al1, ρ, M1, r1, Out.mono (Out.bind h1) fun k al2 M2 H2 s2 h2 r2 y hy => ?_⟩
    refine ⟨al2, ρ, M2, r2, Out.mono (Out.bind h2) fun w al3 M3 H3 s3 h3 r3 z hz => ?_⟩
    split at h3
    · rename_i kvs kk e2 ek
      obtain ⟨b, vs, eb, k1, k2⟩ := asK_rep r3.toCells (Rep.le (s2.trans s3).le hx) e2
      cases eb
      refine ⟨valV vs kk, .inl ⟨vs, kk, k1, toKey_rep ek hy, rfl⟩, ?_⟩
      have g := RepK.get kk k2
      cases eg : getK kvs kk with
      | none => rw [eg] at g h3; rw [g]; exact Out.here h3 r3 _ hz
      | some q => rw [eg] at g h3; obtain ⟨u, e5, e6⟩ := g; rw [e5]; exact Out.here h3 r3 _ e6
    · exact h3.elim
  · exact h1.elim
def eProp (c : Nat) (F : FN) (f : FE) : FE := fun ρ M => (f ρ M).bind fun d M1 => match asI M1 d with
  | some (j, _) => if j = c then nb (callK 1 0 F [d] M1) else .bad
  | none => .bad
theorem pd_prop {c lv : Nat} {n : Str} {p g : Addr} {fdd : FuncData} {ps : List Str} {F : FN} {CXv : CXT} (hK : X.K = C.K) (hc : Cls C.K (C.cls c)) (hp : PropOf C.K (C.cls c) n p g) (FO : FnOk X.prog X.w C.K X.mg X.base CXv lv g fdd ps (spOf C.K C.cls C.xcl 1 F)) (hr : Room (lv + 1) X.A) (hb : Binds C.K fdd ps []) (hx : Passes CXv X.nox E0) (ho : PD C X o fo) (hab : attributeBase o n X.env (eval o X.env) = eval o X.env := by rfl) :
    PD C X (.Attribute o n pos) (eProp c F fo) := by
  rw [← hK] at hc hp FO hb
  refine PE.wk (pe_prop (dvs := []) ho hc hp FO hr hb .nil hx hab) ?_
  rintro σ H Q ⟨al, ρ, M, rl, h⟩
  refine ⟨al, ρ, M, rl, Out.mono (Out.bind h) fun d al1 M1 H1 s1 h1 r1 x hx => ?_⟩
  split at h1
  · rename_i j fs e1
    split at h1
    · rename_i hj
      subst hj
      obtain ⟨a, dx, xs, rfl, g1, g2⟩ := asI_rep r1.toCells hx e1
      refine ⟨a, dx, xs, rfl, g1, ?_⟩
      rw [hK]
      exact call_ok (C := C.nox) (k := 0) r1.nox (RepL.one hx) (Out.mono (Out.nox h1) fun d al M H s k r v hv => k r.unnox v hv)
    · exact h1.elim
  · exact h1.elim
def eMeth (n c k : Nat) (F : FN) (m : Str) (dts : List T) (fo : FE) (fs : FA) : FE := fun ρ M => (fo ρ M).bind fun d M1 => match asI M1 d with
  | some (j, ws) => if j = c ∧ ws.lookup m = none then (fs ρ M1).bind fun ds M2 => callK n k F (d :: (ds ++ dts.map .t)) M2 else .bad
  | none => .bad
theorem pd_meth {c n k lv : Nat} {m : Str} {g : Addr} {fdd : FuncData} {ps : List Str} {F : FN} {CXv : CXT} {es : List Expr} {fs : FA} {dvs : List V} {dts : List T} {dus : List Value} {pl : Sem Bool} (hK : X.K = C.K) (hc : Cls C.K (C.cls c)) (hm : Meth C.K (C.cls c) m g) (FO : FnOk X.prog X.w C.K X.mg X.base CXv lv g fdd ps (spOf C.K C.cls C.xcl n F)) (hr : Room lv X.A) (hb : Binds C.K fdd ps dus) (hd : Vals dvs dus) (hdt : ∀ c : Cr, c.K = C.K → RepTs c dts dvs) (hx : Passes CXv X C.E)
    (ho : PD C X o fo) (ha : PDA C X (e :: es) fs) (hst : starEach (e :: es) X.env = (false, eval e X.env) :: starEach es X.env := by rfl) (hpl : (backTo pos (starEach es X.env)).any (·.1) = false := by rfl)
    (ht : eval (.Call (.Attribute o m apos) (e :: es) [] pos) X.env = (do
      let ov ← eval o X.env; standAt apos.atName; let (f, first) ← holding [ov] (getMethod ov m pl); callWith pos f first (backTo pos (starEach (e :: es) X.env)) (backToKw pos (keywordEach [] X.env))) := by rfl) :
    PD C X (.Call (.Attribute o m apos) (e :: es) [] pos) (eMeth n c k F m dts fo fs) := by
  rw [← hK] at hc hm FO hb
  refine PE.wk (pe_meth ho hc hm FO hr hb hd hx ha hst hpl ht) ?_
  rintro σ H Q ⟨al, ρ, M, rl, h⟩
  refine ⟨al, ρ, M, rl, Out.mono (Out.bind h) fun d al1 M1 H1 s1 h1 r1 x hx => ?_⟩
  split at h1
  · rename_i j ws e1
    split at h1
    · rename_i hj
      obtain ⟨rfl, hl⟩ := hj
      obtain ⟨a, dx, xs, rfl, g1, g2⟩ := asI_rep r1.toCells hx e1
      have g := RepF.look m g2
      rw [hl] at g
      refine ⟨a, dx, xs, rfl, g1, g, al1, ρ, M1, r1, Out.mono (Out.bind h1) fun ds al2 M2 H2 s2 h2 r2 vs hv => ?_⟩
      rw [hK]
      exact call_ok r2 (RepL.cons (Rep.le s2.le hx) (hv.append (RepL.ofT (hdt _ rfl)))) h2
    · exact h1.elim
  · exact h1.elim
end
def runB (n : Nat) (body : FS) : FN := fun ds M => match body (ds ++ List.replicate (n - ds.length) .und) M with
  | .nx _ M' => .ok (.t .non) M'
  | .ret d M' => .ok d M'
  | .exc e M' => .exc e M'
  | _ => .bad
section
variable {P : Program} {w : World} {K : PySem.W.Frag} {mg : Str → Option Value} {base : Heap} {x qual : Str} {params : Arguments} {body : List Stmt} {scope : Scope} {dvs : List V} {kws : List (Str × V)} {f : Addr} {fd : FuncData} {N ps : List Str} {k : Nat} {cls xcl : Nat → Addr}
theorem rel_start {C : Fc} {al : List Addr} {M : Mem} {H : Hp} {ds : List D} {vs : List V} (c : Cells C al M H) (hv : RepL (C.cr al H) ds vs) : Rel C al (ds ++ List.replicate (N.length - ds.length) .und) M (L2.start N vs) H := by
  unfold L2.start
  refine { c with sl := by simp [hv.len], slot := fun i d h hu => ?_ }
  by_cases hi : i < ds.length
  · rw [List.getElem?_append_left hi] at h
    obtain ⟨y, e1, e2⟩ := hv.get h
    refine ⟨y, ?_, e2⟩
    rw [List.getElem?_append_left (by rw [List.length_map, hv.len]; exact hi), List.getElem?_map, e1]; rfl
  · rw [List.getElem?_append_right (by omega)] at h
    have := List.mem_of_getElem? h
    rw [List.mem_replicate] at this
    exact absurd this.2 hu
theorem def_ok {fs : FS} (F : FunD K x qual params body scope dvs kws f fd) (S : FnScope N ps scope)
    (hb : ∀ (cdv : Value) (A : Around) (outer : List Env) (s : Shared) (H : Hp) (E : XK) (reg : Addr → Prop), Room k (A.deeper (PyProof.Rows.envOfC qual scope s.heap.objs.size f cdv)) →
      PDSs ⟨K, cls, xcl, reg, E⟩ (cxOf (L2.CX P w) P w K mg base N qual scope f cdv A outer s H E) body fs) : FnOk P w K mg base (L2.CX P w) (k + 1) f fd ps (spOf K cls xcl ps.length (runB N.length fs)) := by
  refine F.ok S (fun vs H Q E ⟨reg, al, M, ds, hn, c, hv, ho⟩ => by rw [hv.len]; exact hn) fun cdv A outer s H vs Q E hr ⟨reg, al, M, ds, hn, c, hv, ho⟩ => ?_
  refine ⟨_, hb cdv A outer s H E reg hr, al, _, M, rel_start c hv, ?_⟩
  unfold runB at ho
  cases e : fs (ds ++ List.replicate (N.length - ds.length) .und) M with
  | nx ρ' M' => rw [e] at ho; exact fun al' H' σ' s r => ho al' H' s r.toCells _ (by simp only [Rep, RepT])
  | ret d M' => rw [e] at ho; exact fun al' H' v s c hv => ho al' H' s c v hv
  | brk ρ' M' => rw [e] at ho; exact ho.elim
  | cnt ρ' M' => rw [e] at ho; exact ho.elim
  | exc x M' => rw [e] at ho; exact ho
  | bad => rw [e] at ho; exact ho.elim
/-- .. its own cells left behind -/
theorem def_fin {fs : FS} (F : FunD K x qual params body scope dvs kws f fd) (S : FnScope N ps scope)
    (hb : ∀ (cdv : Value) (A : Around) (outer : List Env) (s : Shared) (H : Hp) (E : XK) (reg : Addr → Prop), Room k (A.deeper (PyProof.Rows.envOfC qual scope s.heap.objs.size f cdv)) →
      PDSs ⟨K, cls, xcl, reg, E⟩ (cxOf (L2.CX P w) P w K mg base N qual scope f cdv A outer s H E) body fs) : FnOk P w K mg base (L2.CX P w) (k + 1) f fd ps (spOf K cls xcl ps.length (fun ds M => finX M.length (runB N.length fs ds M))) :=
  (def_ok F S hb).imp spOf_fin
end
end LL
namespace LL
open PySem L2
section
variable {C : Fc} {X : Cx}
/-- never run -/
def eBad : FE := fun _ _ => .bad
theorem pd_never {e : Expr} : PD C X e eBad := ⟨fun pins s σ H Q I h => by obtain ⟨al, ρ, M, r, h⟩ := h; exact h.elim⟩
def kinds (nc : Nat) : List (String ⊕ Nat) := [.inl "NoneType", .inl "bool", .inl "int", .inl "str", .inl "list", .inl "tuple", .inl "dict"] ++ (List.range nc).map .inr
/-- is a value of kind k one of t -/
def isKd (t k : String ⊕ Nat) : Bool := decide (k = t) || (decide (k = .inl "bool") && decide (t = .inl "int"))
def qKd (nc : Nat) (ts : List (String ⊕ Nat)) (k : String ⊕ Nat) : Option Bool := if ((kinds nc).any fun j => decide (j = k)) = true then some (ts.any fun t => isKd t k) else none
theorem kinds_mem {nc : Nat} {k : String ⊕ Nat} (h : ((kinds nc).any fun j => decide (j = k)) = true) : k ∈ kinds nc := by
  obtain ⟨j, h1, h2⟩ := List.any_eq_true.1 h
  rw [← of_decide_eq_true h2]; exact h1
theorem kinds_lt {nc : Nat} {k : String ⊕ Nat} (h : k ∈ kinds nc) : ∀ j, k = .inr j → j < nc := by
  intro j e
  subst e
  unfold kinds at h
  rcases List.mem_append.1 h with h | h
  · simp at h
  · rw [List.mem_map] at h
    obtain ⟨i, h1, h2⟩ := h
    cases h2
    exact List.mem_range.1 h1
/-- what the head tells: the answers of one target -/
def kdB (K : PySem.W.Frag) (cls : Nat → Addr) (nc : Nat) (t : String ⊕ Nat) : Bool := (kinds nc).all fun k => decide (PySem.W.kitOne K (match k with | .inl s => .type s | .inr j => .ref (cls j)) (match t with | .inl s => .type s | .inr j => .ref (cls j)) = some (isKd t k))
theorem kdB_ok {nc : Nat} {t k : String ⊕ Nat} (h : kdB C.K C.cls nc t = true) (hk : k ∈ kinds nc) : PySem.W.kitOne C.K (kindV C k) (kindV C t) = some (isKd t k) := by
  have := of_decide_eq_true (List.all_eq_true.1 h k hk)
  cases k <;> cases t <;> exact this
theorem q1_ok {nc : Nat} {t : String ⊕ Nat} (h : kdB C.K C.cls nc t = true) : ∀ kd b, qKd nc [t] kd = some b → (∀ k, kd = .inr k → k < nc) ∧ PySem.W.kitOne C.K (kindV C kd) (kindV C t) = some b := by
  intro kd b e
  unfold qKd at e
  split at e
  · rename_i hk
    have hk := kinds_mem hk
    cases e
    refine ⟨kinds_lt hk, ?_⟩
    rw [kdB_ok h hk]; simp
  · cases e
variable {a c : Expr} {f : FE} {p pos : Pos}
/-- isinstance(x, T) -/
theorem pd_isiT (hK : X.K = C.K) {nc : Nat} (hI : ∀ k, k < nc → InsF C.K (C.cls k)) {t : Str} {s : String} {pc : Pos} (hb : bootBuiltins t = some (.type s)) (hq : kdB C.K C.cls nc (.inl s) = true) (hg : Gl X "isinstance") (hm : X.mg "isinstance" = none) (hgt : Gl X t) (hmt : X.mg t = none) (ha : PD C X a f) (hn : t ≠ "__name__" := by decide) (hd : (t == ("__debug__" : Str)) = false := by decide)
    (he : starEach [a, .Name t pc] X.env = (false, eval a X.env) :: starEach [.Name t pc] X.env := by rfl) :
    PD C X (.Call (.Name "isinstance" p) [a, .Name t pc] [] pos) (eIsi (qKd nc [.inl s]) f) :=
  pd_isi hK hI (cv := .ty s) (cu := .type s) ha (pe_bltn hgt hmt hb rfl hn hd) (.ty s) (q1_ok hq) hg hm he rfl rfl
theorem pd_isiO (hK : X.K = C.K) {nc : Nat} (hI : ∀ k, k < nc → InsF C.K (C.cls k)) {t : Str} {j : Nat} {pc : Pos} (hmt : X.mg t = some (.ref (C.cls j))) (hq : kdB C.K C.cls nc (.inr j) = true) (hg : Gl X "isinstance") (hm : X.mg "isinstance" = none) (hgt : Gl X t) (ha : PD C X a f) (hd : (t == ("__debug__" : Str)) = false := by decide)
    (he : starEach [a, .Name t pc] X.env = (false, eval a X.env) :: starEach [.Name t pc] X.env := by rfl) :
    PD C X (.Call (.Name "isinstance" p) [a, .Name t pc] [] pos) (eIsi (qKd nc [.inr j]) f) :=
  pd_isi hK hI (cv := .ref (C.cls j)) (cu := .ref (C.cls j)) ha (pe_glob hgt hmt rfl hd) (.own _) (q1_ok (t := .inr j) hq) hg hm he rfl rfl
/-- isinstance(x, (S, T)) -/
theorem pd_isi2 (hK : X.K = C.K) {nc : Nat} (hI : ∀ k, k < nc → InsF C.K (C.cls k)) {t t' : Str} {s s' : String} {pc pc' pt : Pos} {kk : Nat} (hb : bootBuiltins t = some (.type s)) (hb' : bootBuiltins t' = some (.type s')) (hq : kdB C.K C.cls nc (.inl s) = true) (hq' : kdB C.K C.cls nc (.inl s') = true) (hg : Gl X "isinstance") (hm : X.mg "isinstance" = none) (hgt : Gl X t) (hmt : X.mg t = none) (hgt' : Gl X t') (hmt' : X.mg t' = none) (ha : PD C X a f)
    (hn : t ≠ "__name__" := by decide) (hd : (t == ("__debug__" : Str)) = false := by decide) (hn' : t' ≠ "__name__" := by decide) (hd' : (t' == ("__debug__" : Str)) = false := by decide)
    (he : starEach [a, .Tuple [.Name t pc, .Name t' pc'] kk pt] X.env = (false, eval a X.env) :: starEach [.Tuple [.Name t pc, .Name t' pc'] kk pt] X.env := by rfl) :
    PD C X (.Call (.Name "isinstance" p) [a, .Tuple [.Name t pc, .Name t' pc'] kk pt] [] pos) (eIsi (qKd nc [.inl s, .inl s']) f) := by
  refine PE.wk (pe_callB call_isiT hg hm PyProof.Rows.boot_isinstance (pa_cons ha (pa_cons (pe_tup (pa_cons (pe_bltn (v := .ty s) hgt hmt hb rfl hn hd) (pa_cons (pe_bltn (v := .ty s') hgt' hmt' hb' rfl hn' hd') pa_nil rfl) rfl)) pa_nil rfl) he) (by decide) (by decide) he rfl) ?_
  rintro σ H Q ⟨al, ρ, M, rl, h⟩
  refine ⟨al, ρ, M, rl, Out.mono (Out.bind h) fun d al1 M1 H1 s1 h1 r1 x hx => ?_⟩
  refine ⟨by show (2 : Nat) ≤ sizeLine; decide, fun tp htp => ?_⟩
  show rIsiT X.K [x, .ref tp] (upd H1 tp (.tup [.ty s, .ty s'])) Q
  split at h1
  · rename_i b hb
    cases ek : kindB M1 d with
    | none => rw [ek] at hb; cases hb
    | some kd =>
      rw [ek] at hb
      have hb2 : qKd nc [.inl s, .inl s'] kd = some b := hb
      unfold qKd at hb2
      split at hb2
      · rename_i hk
        have hk := kinds_mem hk
        cases hb2
        have st := stp_new (o := .tup [.ty s, .ty s']) r1.toCells htp
        have r2 := r1.new (o := .tup [.ty s, .ty s']) htp
        have k1 := kdB_ok (C := C) hq hk
        have k2 := kdB_ok (C := C) hq' hk
        rw [hK]
        refine ⟨x, tp, _, _, [.type s, .type s'], [Sum.inl s, Sum.inl s'].any fun t => isKd t kd, rfl, upd_same, .cons (.ty s) (.cons (.ty s') .nil), kind_ty (H := upd H1 tp (.tup [.ty s, .ty s'])) r2.toCells hI (Rep.le st.le hx) ek (kinds_lt hk), ?_, ?_⟩
        · show (match PySem.W.kitOne C.K (kindV C kd) (.type s) with | some true => some true | some false => (match PySem.W.kitOne C.K (kindV C kd) (.type s') with | some true => some true | some false => some false | none => none) | none => none) = _
          rw [show PySem.W.kitOne C.K (kindV C kd) (.type s) = _ from k1, show PySem.W.kitOne C.K (kindV C kd) (.type s') = _ from k2]
          cases e1 : isKd (.inl s) kd <;> cases e2 : isKd (.inl s') kd <;> simp [e1, e2]
        · exact out_bl r2 (Out.step st h1)
      · cases hb2
  · exact h1.elim
def eLenSet (f : FE) : FE := fun ρ M => (f ρ M).bind fun d M1 => match ((asS M1 d).bind asTs).bind asSs with
  | some ss => if ss.length ≤ 1 then .ok (.t (.int ss.length)) M1 else .bad
  | none => .bad
theorem pd_lenSet {p2 q : Pos} (hK : X.K = C.K) (hc : X.calm = true) (hg : Gl X "len") (hm : X.mg "len" = none) (hg2 : Gl X "set") (hm2 : X.mg "set" = none) (ha : PD C X a f) (na : starEach [a] X.env = (false, eval a X.env) :: starEach [] X.env := by rfl) : PD C X (.Call (.Name "len" p) [.Call (.Name "set" p2) [a] [] q] [] pos) (eLenSet f) := by
  refine PE.wk (pe_lenSet hc hg hm hg2 hm2 ha na) ?_
  rintro σ H Q ⟨al, ρ, M, rl, h⟩
  refine ⟨al, ρ, M, rl, Out.mono (Out.bind h) fun d al1 M1 H1 s1 h1 r1 x hx => ?_⟩
  split at h1
  · rename_i ss e
    split at h1
    · rename_i hl
      rw [Option.bind_eq_some_iff] at e
      obtain ⟨ts, e, e3⟩ := e
      rw [Option.bind_eq_some_iff] at e
      obtain ⟨ds, e1, e2⟩ := e
      obtain ⟨b, xs, rfl, g1, g2⟩ := asS_rep r1.toCells hx e1
      have g3 := g2.asT e2
      rw [asSs_eq e3] at g3
      have g4 := repSs g3
      subst g4
      rw [hK]
      exact ⟨b, ss, rfl, g1, hl, out_int r1 h1⟩
    · exact h1.elim
  · exact h1.elim
def dMulC : F2 := fun d e M => match e with
  | .t (.int k) => match asL M d with
    | some ds => match asTs ds with
      | some ds => if -(2 ^ 63) ≤ k ∧ k < 2 ^ 63 ∧ ds.length * k.toNat ≤ sizeLine then .ok (.loc M.length) (M ++ [.lst ((List.replicate k.toNat ds).flatten.map .t)]) else .bad
      | none => .bad
    | none => .bad
  | _ => .bad
theorem os_mulC : OpS C rMulA dMulC := by
  intro al ρ M σ H d e x y Q r hx hy h
  unfold dMulC at h
  split at h
  · split at h
    · rename_i e1
      split at h
      · rename_i t1
        split at h
        · rename_i hz
          obtain ⟨a, xs, rfl, h1, h2⟩ := asL_rep r.toCells hx e1
          have g2 := h2.asT t1
          refine .inr (.inr ⟨a, _, xs, rfl, rep_int hy, h1, hz.1, hz.2.1, by rw [g2.len]; exact hz.2.2, fun p hp => ?_⟩)
          exact out_cellL r h (RepL.ofT (repL_flat g2 _)) hp
        · exact h.elim
      · exact h.elim
    · exact h.elim
  · exact h.elim
theorem pd_mulC {b : Expr} {g : FE} (ha : PD C X a f) (hb : PD C X b g) : PD C X (.BinOp a .Mult b pos) (eOp dMulC f g) := pd_op os_mulC op_mulA ha hb
end
end LL
namespace LL
open PySem L2
/-- a def: where, and as its text has it -/
structure DefY where
  at_ : PySem.W.Frag → Addr
  name : Str
  qual : Str
  params : Arguments
  body : List Stmt
  scope : Scope
  dfl : List He.Dv := []
abbrev FnY : Type := Option (Str × Str × Arguments × FuncBody × Scope × Addr × List (Str × Addr) × Addr)
def fnY (K : PySem.W.Frag) (a : Addr) : FnY := match K.lookup a with
  | some ⟨_, _, .func fd, _⟩ => some (fd.name, fd.qualname, fd.params, fd.body, fd.scope, fd.globals, fd.closure, fd.builtins)
  | _ => none
def DefY.val (d : DefY) : FnY := some (d.name, d.qual, d.params, .stmts d.body, d.scope, mainGlobals, [], builtinsNs)
def DefY.dvs (K : PySem.W.Frag) (d : DefY) : List V := d.dfl.map (He.Dv.v K)
def DefY.ok (K : PySem.W.Frag) (d : DefY) : Bool := PySem.W.keepIn K (.ref (d.at_ K)) && (match K.lookup (d.at_ K) with
  | some ⟨_, _, .func fd, _⟩ => PySem.W.codeIn K fd.code d.qual && He.dflB K fd.defaults (d.dvs K)
  | _ => false)
theorem DefY.funD {K : PySem.W.Frag} {d : DefY} (e : fnY K (d.at_ K) = d.val) (c : d.ok K = true) : ∃ fd, FunD K d.name d.qual d.params d.body d.scope (d.dvs K) [] (d.at_ K) fd := by
  obtain ⟨kp, c2⟩ := He.ba c
  unfold fnY at e
  cases q : K.lookup (d.at_ K) with
  | none => rw [q] at c2; cases c2
  | some o =>
    obtain ⟨oc, od, dt, osl⟩ := o
    rw [q] at c2 e
    cases dt with
    | func fd =>
      obtain ⟨n1, n2, n3, n4, n5, n6, n7, n8, n9, n10, n11, n12, n13, n14, n15⟩ := fd
      have e2 : (some (n1, n2, n3, n4, n5, n6, n7, n15) : FnY) = some (d.name, d.qual, d.params, .stmts d.body, d.scope, mainGlobals, [], builtinsNs) := e
      simp only [Option.some.injEq, Prod.mk.injEq] at e2
      obtain ⟨h1, h2, h3, h4, h5, h6, h7, h8⟩ := e2
      subst h1 h2 h3 h4 h5 h6 h7 h8
      have c3 : (PySem.W.codeIn K n13 d.qual && He.dflB K n8 (d.dvs K)) = true := c2
      obtain ⟨k1, k3⟩ := He.ba c3
      exact ⟨_, ⟨oc, od, n8, n9, n10, n11, n12, n13, n14, osl, rfl, q, k1, He.dflB_ok k3, .inl rfl⟩, kp⟩
    | _ => cases c2
/-- an empty tuple stands at a -/
def etB (K : PySem.W.Frag) (a : Addr) : Bool := match K.lookup a with
  | some ⟨.type c, _, .seq its _, _⟩ => decide (c = "tuple") && decide (its = #[])
  | _ => false
theorem etB_ok {K : PySem.W.Frag} {a : Addr} (h : etB K a = true) (c : Cr) (hc : c.K = K) : RepTs c [.tup []] [.ref a] := by
  unfold etB at h
  split at h
  · rename_i cc dd its n sl e
    obtain ⟨h1, h2⟩ := He.ba h
    have h1 := of_decide_eq_true h1
    have h2 := of_decide_eq_true h2
    subst h1 h2
    simp only [RepTs, RepT]
    refine ⟨_, _, rfl, ⟨a, [], rfl, .inr ?_, rfl⟩, rfl⟩
    rw [hc]
    exact ⟨_, #[], n, e, rfl, rfl, by decide, .nil⟩
  · cases h
/-- a property's object, its getter -/
def pAd (K : PySem.W.Frag) (c n : Str) : Addr := He.ma K (He.ga K c) n
def pgAd (K : PySem.W.Frag) (c n : Str) : Addr := match PySem.W.recIn K (pAd K c n) "property" with
  | some (.ref g :: _) => g
  | _ => 0
def propB (K : PySem.W.Frag) (c n : Str) : Bool := He.eqO (PySem.W.findIn K (.ref (He.ga K c)) n) (some (some (.ref (pAd K c n)))) && (He.eqO (PySem.W.specialIn K (.ref (pAd K c n)) "__get__") (some (some (.builtin "property.__get__"))) &&
  (decide (PySem.W.takesIn K (.ref (pAd K c n)) = some true) && (match PySem.W.recIn K (pAd K c n) "property" with | some (.ref _ :: _) => true | _ => false)))
theorem propB_ok {K : PySem.W.Frag} {c n : Str} (h : propB K c n = true) : PropOf K (He.ga K c) n (pAd K c n) (pgAd K c n) := by
  obtain ⟨h1, h⟩ := He.ba h
  obtain ⟨h2, h⟩ := He.ba h
  obtain ⟨h3, h4⟩ := He.ba h
  refine ⟨He.eqO_ok h1, He.eqO_ok h2, of_decide_eq_true h3, ?_⟩
  unfold pgAd
  split at h4
  · rename_i g r e; rw [e]; exact ⟨r, rfl⟩
  · cases h4
/-- a class whose instances are asked for their kind -/
def insB (K : PySem.W.Frag) (x : Str) : Bool := (He.Fa.cls x).ok K && (He.eqO (PySem.W.findIn K (.ref (He.ga K x)) "__class__") (some (some (.builtin "object.__class__"))) && (He.eqO (PySem.W.specialIn K (.builtin "object.__class__") "__get__") (some (some (.builtin "getset_descriptor.__get__"))) &&
  (decide (PySem.W.takesIn K (.builtin "object.__class__") = some true) && decide (PySem.W.mroIn K (He.ga K x) (.type "object") = some true))))
theorem insB_ok {K : PySem.W.Frag} {x : Str} (h : insB K x = true) : InsF K (He.ga K x) := by
  obtain ⟨h1, h⟩ := He.ba h
  obtain ⟨h2, h⟩ := He.ba h
  obtain ⟨h3, h⟩ := He.ba h
  obtain ⟨h4, h5⟩ := He.ba h
  exact ⟨He.cls_ok h1, He.eqO_ok h2, He.eqO_ok h3, of_decide_eq_true h4, of_decide_eq_true h5⟩
/-- the classes by number -/
def clsY (cs : List Str) (K : PySem.W.Frag) (i : Nat) : Addr := He.ga K (cs.getD i "")
abbrev AlY : Type := (Bool × Bool) × List FnY
structure Hd where
  fa : List He.Fa
  fn : List DefY
  ex : PySem.W.Frag → Bool
def obsY (Y : Hd) (K : PySem.W.Frag) : AlY := ((Y.fa.all fun f => f.ok K, (Y.fn.all fun d => d.ok K) && Y.ex K), Y.fn.map fun d => fnY K (d.at_ K))
def valY (Y : Hd) : AlY := ((true, true), Y.fn.map DefY.val)
def SaysY (Y : Hd) (K : PySem.W.Frag) : Prop := obsY Y K = valY Y
def obsYG (n : Nat) (Y : Hd) (g : Addr → Option Obj) : AlY := obsY Y (He.frG g (He.asD g n))
def hookY (n : Nat) (Y : Hd) : PySem.W.Hook where
  α := AlY
  obs := fun s => obsYG n Y s.heap.get?
  val := fun _ => valY Y
  says := fun _ h => ∃ K : PySem.W.Frag, K.In h ∧ SaysY Y K
  of := fun _ _ e => ⟨_, He.frG_in, e⟩
  keeps := fun _ _ _ ⟨K, hK, c⟩ k => ⟨K, PySem.W.Frag.In.keeps hK k, c⟩
theorem obsYG_eq {n : Nat} {Y : Hd} {g : Addr → Option Obj} {s : Shared} (h : ∀ a, g a = s.heap.get? a) : obsYG n Y g = (hookY n Y).obs s := by
  have : g = s.heap.get? := funext h
  subst this; rfl
section
variable {Y : Hd} {K : PySem.W.Frag}
theorem SaysY.fact (c : SaysY Y K) (i : Nat) {f : He.Fa} (h : Y.fa[i]? = some f := by rfl) : f.ok K = true := by
  have c1 : (Y.fa.all fun f => f.ok K) = true := congrArg (fun z : AlY => z.1.1) c
  exact List.all_eq_true.1 c1 f (List.mem_of_getElem? h)
theorem SaysY.more (c : SaysY Y K) : Y.ex K = true := (He.ba (congrArg (fun z : AlY => z.1.2) c)).2
theorem SaysY.def_ (c : SaysY Y K) (i : Nat) {d : DefY} (h : Y.fn[i]? = some d := by rfl) : ∃ fd, FunD K d.name d.qual d.params d.body d.scope (d.dvs K) [] (d.at_ K) fd := by
  have c1 : (Y.fn.all fun d => d.ok K) = true := (He.ba (congrArg (fun z : AlY => z.1.2) c)).1
  refine DefY.funD ?_ (List.all_eq_true.1 c1 d (List.mem_of_getElem? h))
  have c2 : (Y.fn.map fun d => fnY K (d.at_ K)) = Y.fn.map DefY.val := congrArg (fun z : AlY => z.2) c
  have c3 := congrArg (fun l => l[i]?) c2
  simp only [List.getElem?_map, h, Option.map_some, Option.some.injEq] at c3
  exact c3
end
/-- what a def may let out, widened so that no world is named -/
def CXe : CXT := fun outer H s E u s' => ∃ (P : Program) (w : World), L2.CX P w outer H s E u s'
theorem fn_cx {P : Program} {w : World} {K : PySem.W.Frag} {mg : Str → Option Value} {base : Heap} {k : Nat} {f : Addr} {fd : FuncData} {ps : List Str} {sp : Sp} (F : FnOk P w K mg base (L2.CX P w) k f fd ps sp) : FnOk P w K mg base CXe k f fd ps sp :=
  ⟨F.len, fun A outer s H args us vs Q E hr he hb hv hs => codeAny_mono (F.run A outer s H args us vs Q E hr he hb hv hs) fun r s' h => by
    match r, h with
    | .ok (.ret u), h => exact h
    | .error e, h => exact ⟨P, w, h⟩⟩
theorem cxe_no (H : Hp) (s : Shared) (e : Value) (s' : Shared) (h : CXe [] H s (fun _ _ _ => False) e s') : False := by
  obtain ⟨_, _, _, _, _, _, _, _, _, _, _, _, _, _, z⟩ := h
  exact z
end LL
namespace LL
open PySem L2
def visB (sc : Scope) (x : Str) : Bool := match sc.names.lookup x with
  | some .local => true
  | some .cell => true
  | some .free => true
  | _ => false
theorem vis_by {sc : Scope} {x : Str} (h : visB sc x = true) : Vis sc x := by
  unfold visB at h
  unfold Vis
  split at h <;> simp_all
def locB (sc : Scope) (x : Str) : Bool := match sc.names.lookup x with
  | some .local => true
  | some .cell => true
  | _ => false
theorem loc_by {sc : Scope} {x : Str} (h : locB sc x = true) : L2.Loc sc x := by
  unfold locB at h
  unfold L2.Loc
  split at h <;> simp_all
section
variable {C : Fc} {X : Cx}
theorem pv {i : Nat} {x : Str} {pos : Pos} (hN : X.N[i]? = some x) (hv : visB X.env.scope x = true) (hd : (x == ("__debug__" : Str)) = false := by decide) (hcd : (x == ("__classdict__" : Str)) = false := by decide) : PD C X (.Name x pos) (eVar i) := pd_var hN (vis_by hv) hd hcd
theorem pd_gI {x : Str} {i : Int} {pos : Pos} (hg : Gl X x) (hm : ∃ t, X.mg x = some (.int i t)) (hd : (x == ("__debug__" : Str)) = false := by decide) : PD C X (.Name x pos) (eC (.int i)) := by
  obtain ⟨t, e⟩ := hm
  exact pd_globI hg e hd
theorem pd_gS {x : Str} {i : Str} {pos : Pos} (hg : Gl X x) (hm : ∃ t, X.mg x = some (.str i t)) (hd : (x == ("__debug__" : Str)) = false := by decide) : PD C X (.Name x pos) (eC (.str i)) := by
  obtain ⟨t, e⟩ := hm
  exact pd_globS hg e hd
theorem pg_n {i : Nat} {x : Str} {pos : Pos} (hN : X.N.Nodup) (hi : X.N[i]? = some x) (hx : locB X.env.scope x = true) (hf : X.fn x = true ∨ X.env.scope.names.lookup x = some .local := by first | exact .inl rfl | exact .inr rfl | assumption) : PG X (.Name x pos) (gName i) := pg_name hN hi (loc_by hx) hf
end
theorem rts_nil {c : Cr} : RepTs c [] [] := by simp only [RepTs]
/-- the function object at an address -/
def fdOf (K : PySem.W.Frag) (a : Addr) : FuncData := match K.lookup a with
  | some ⟨_, _, .func fd, _⟩ => fd
  | _ => PySem.W.fnOf "" "" ⟨[], [], none, [], [], none, []⟩ [] ⟨.function, [], false, false, []⟩ .none .none .none .none none .none .none
theorem funD_of {K : PySem.W.Frag} {x qual : Str} {params : Arguments} {body : List Stmt} {scope : Scope} {dvs : List V} {a : Addr} (h : ∃ fd, FunD K x qual params body scope dvs [] a fd) : FunD K x qual params body scope dvs [] a (fdOf K a) := by
  obtain ⟨fd, F⟩ := h
  obtain ⟨oc, od, dV, kV, doc, pm, an, cdv, ct, osl, h1, lk, h2⟩ := F.ex
  have e : fdOf K a = fd := by unfold fdOf; rw [lk]
  rw [e]; exact F
end LL
namespace LL
open PySem L2
theorem sSeq_nx {f g : FS} {ρ ρ' : List D} {M M' : Mem} (h : f ρ M = .nx ρ' M') : sSeq f g ρ M = g ρ' M' := by unfold sSeq; rw [h]
def endB : RS → R D
  | .nx _ M' => .ok (.t .non) M'
  | .ret d M' => .ok d M'
  | .exc e M' => .exc e M'
  | _ => .bad
theorem runB_eq (n : Nat) (body : FS) (ds : List D) (M : Mem) : runB n body ds M = endB (body (ds ++ List.replicate (n - ds.length) .und) M) := by
  unfold runB
  generalize body (ds ++ List.replicate (n - ds.length) .und) M = r
  cases r <;> rfl
theorem callK0 {n : Nat} {F : FN} {ds : List D} {M : Mem} {x : T} (h : F ds [] = .ok (.t x) []) (hn : ds.length = n) (hb : ds.all (·.below 0) = true) : callK n 0 F ds M = .ok (.t x) M := by
  unfold callK
  rw [if_pos ⟨hn, Nat.zero_le _, hb, by simp⟩]
  simp [h, D.sh, backM]
theorem mulOk_r {i j : Int} (h : -(2 ^ 64) < j ∧ j < 2 ^ 64) : mulOk i j = true := by
  unfold mulOk
  rw [decide_eq_true (Or.inr h)]; rfl
theorem mulOk_l {i j : Int} (h : -(2 ^ 64) < i ∧ i < 2 ^ 64) : mulOk i j = true := by
  unfold mulOk
  rw [decide_eq_true (Or.inl h)]; rfl
/-- the memory is closed -/
def Mem.ok (M : Mem) : Bool := M.all (·.below M.length)
theorem below_mono {a b : Nat} (h : a ≤ b) {d : D} (hd : d.below a = true) : d.below b = true := by
  cases d with
  | loc n => exact decide_eq_true (Nat.lt_of_lt_of_le (of_decide_eq_true hd) h)
  | _ => rfl
section
variable {f g : FE} {fs : FA} {F : F2} {ρ ρ' : List D} {M M1 M2 M3 : Mem} {d e : D} {ds : List D}
theorem eOp_ok (h1 : f ρ M = .ok d M1) (h2 : g ρ M1 = .ok e M2) : eOp F f g ρ M = F d e M2 := by unfold eOp; rw [h1]; simp only [R.bind, h2]
theorem aCons_ok (h1 : f ρ M = .ok d M1) (h2 : fs ρ M1 = .ok ds M2) : aCons f fs ρ M = .ok (d :: ds) M2 := by unfold aCons; rw [h1]; simp only [R.bind, h2]
theorem aNil_ok : aNil ρ M = .ok [] M := rfl
theorem eCall_ok {F : FN} (h : fs ρ M = .ok ds M1) : eCall F fs ρ M = F ds M1 := by unfold eCall; rw [h]; rfl
theorem eFn_ok {n k : Nat} {F : FN} (h : fs ρ M = .ok ds M1) : eFn n k F [] fs ρ M = callK n k F ds M1 := by unfold eFn; rw [h]; simp [R.bind]
theorem sAsg_ok {g : FG} (h : f ρ M = .ok d M1) (hg : g d ρ M1 = some ρ') : sAsg f g ρ M = .nx ρ' M1 := by unfold sAsg; rw [h]; simp only [R.bindS, hg]
theorem asT_ok {b : Bool} (h : f ρ M = .ok (.t (.bl b)) M1) : asT f ρ M = .ok b M1 := by unfold asT; rw [h]; rfl
theorem sIf_t {p : FT} {a b : FS} (h : p ρ M = .ok true M1) : sIf p a b ρ M = a ρ M1 := by unfold sIf; rw [h]; rfl
theorem sIf_f {p : FT} {a b : FS} (h : p ρ M = .ok false M1) : sIf p a b ρ M = b ρ M1 := by unfold sIf; rw [h]; rfl
theorem eIf_t {p : FT} (h : p ρ M = .ok true M1) : eIf p f g ρ M = f ρ M1 := by unfold eIf; rw [h]; rfl
theorem eIf_f {p : FT} (h : p ρ M = .ok false M1) : eIf p f g ρ M = g ρ M1 := by unfold eIf; rw [h]; rfl
theorem sSub_ok {fo fi fv : FE} {o i v : D} {M4 : Mem} (hv : fv ρ M = .ok v M1) (ho : fo ρ M1 = .ok o M2) (hi : fi ρ M2 = .ok i M3) (hs : setB M3 o i v = some M4) : sSub fo fi fv ρ M = .nx ρ M4 := by
  unfold sSub; rw [hv]; simp only [R.bindS, ho, hi, hs]
theorem sRet_ok (h : f ρ M = .ok d M1) : sRet f ρ M = .ret d M1 := by unfold sRet; rw [h]; rfl
theorem eTup_ok {ts : List T} (h : fs ρ M = .ok (ts.map .t) M1) (hl : ts.length ≤ sizeLine) : eTup fs ρ M = .ok (.t (.tup ts)) M1 := by
  unfold eTup; rw [h]; simp only [R.bind, asTs_map]; rw [if_pos hl]
theorem eLst_ok {ts : List T} (h : fs ρ M = .ok (ts.map .t) M1) (hl : ts.length ≤ sizeLine) : eLst fs ρ M = .ok (.t (.lst ts)) M1 := by
  unfold eLst; rw [h]; simp only [R.bind, asTs_map]; rw [if_pos hl]
end
theorem unC_lst {M : Mem} {ts : List T} (hM : Mem.ok M = true) : unC M.length (.ok (.loc M.length) (M ++ [.lst (ts.map .t)])) = .ok (.t (.lst ts)) M := by
  have e : popC M.length (M ++ [.lst (ts.map D.t)]) = some (M, .lst (ts.map D.t)) := by
    unfold popC
    have h1 : (M ++ [Cel.lst (ts.map D.t)])[M.length]? = some (.lst (ts.map D.t)) := by simp
    rw [h1]
    have h2 : (M ++ [Cel.lst (ts.map D.t)]).take M.length = M := by simp
    simp only [h2]
    rw [if_pos ⟨by simp, hM⟩]
  unfold unC
  simp [R.bind, e]
theorem unC_dct {M : Mem} {ts : List (Key × T)} (hM : Mem.ok M = true) : unC M.length (.ok (.loc M.length) (M ++ [.dct (ts.map fun kv => (kv.1, .t kv.2))])) = .ok (.t (.dct ts)) M := by
  have e : popC M.length (M ++ [.dct (ts.map fun kv => (kv.1, D.t kv.2))]) = some (M, .dct (ts.map fun kv => (kv.1, D.t kv.2))) := by
    unfold popC
    have h1 : (M ++ [Cel.dct (ts.map fun kv => (kv.1, D.t kv.2))])[M.length]? = some (.dct (ts.map fun kv => (kv.1, D.t kv.2))) := by simp
    rw [h1]
    have h2 : (M ++ [Cel.dct (ts.map fun kv => (kv.1, D.t kv.2))]).take M.length = M := by simp
    simp only [h2]
    rw [if_pos ⟨by simp, hM⟩]
  unfold unC
  simp [R.bind, e]
theorem compS_pure {vs : List Nat} {g : FG} {te : FE} {ρ : List D} {M : Mem} {f : D → T} :
    ∀ (items : List D), (∀ d ∈ items, ∀ acc, ∃ ρ2, g d (wipeD ρ vs) (M ++ [.lst acc]) = some ρ2 ∧ te ρ2 (M ++ [.lst acc]) = .ok (.t (f d)) (M ++ [.lst acc])) →
      ∀ acc : List D, acc.length + items.length ≤ sizeLine → compS vs g fYes te (fun _ => true) M.length items ρ (M ++ [.lst acc]) = .ok (.loc M.length) (M ++ [.lst (acc ++ items.map fun d => .t (f d))])
  | [], _, acc, _ => by simp [compS]
  | d :: ds, h, acc, hl => by
    obtain ⟨ρ2, h1, h2⟩ := h d List.mem_cons_self acc
    have hl' : acc.length < sizeLine := by simp at hl; omega
    have e1 : (M ++ [Cel.lst acc])[M.length]? = some (.lst acc) := by simp
    have e2 : (M ++ [Cel.lst acc]).set M.length (.lst (acc ++ [.t (f d)])) = M ++ [.lst (acc ++ [.t (f d)])] := by simp
    have ih := compS_pure (vs := vs) (g := g) (te := te) (ρ := ρ) (M := M) (f := f) ds (fun d hd => h d (List.mem_cons_of_mem _ hd)) (acc ++ [.t (f d)]) (by simp at hl ⊢; omega)
    simp only [compS, h1, fYes, nb, R.bind, h2, e1, e2]
    simp only [hl', and_self, ite_true, ih]
    simp
theorem eLc_pure {fi : FI} {vs : List Nat} {g : FG} {te : FE} {ρ : List D} {M : Mem} {items : List D} {f : D → T} (hi : fi ρ M = .ok (items, fun _ => true) M) (hM : Mem.ok M = true) (hl : items.length ≤ sizeLine)
    (h : ∀ d ∈ items, ∀ acc, ∃ ρ2, g d (wipeD ρ vs) (M ++ [.lst acc]) = some ρ2 ∧ te ρ2 (M ++ [.lst acc]) = .ok (.t (f d)) (M ++ [.lst acc])) :
    eLc fi vs g fYes te ρ M = .ok (.t (.lst (items.map f))) M := by
  unfold eLc
  rw [hi]
  simp only [R.bind, ite_true]
  rw [compS_pure items h [] (by simpa using hl)]
  have e : ([] : List D) ++ items.map (fun d => D.t (f d)) = (items.map f).map .t := by simp
  rw [e]
  exact unC_lst hM
/-- .. over a list of ints -/
theorem eLc_ints {fe : FE} {j : Nat} {te : FE} {ρ : List D} {M : Mem} {xs : List Int} {f : Int → Int} (he : fe ρ M = .ok (.t (.lst (xs.map .int))) M) (hM : Mem.ok M = true) (hl : xs.length ≤ sizeLine)
    (h : ∀ x ∈ xs, ∀ acc, te ((wipeD ρ [j]).set j (.t (.int x))) (M ++ [.lst acc]) = .ok (.t (.int (f x))) (M ++ [.lst acc])) :
    eLc (iAny fe) [j] (gN j) fYes te ρ M = .ok (.t (.lst ((xs.map f).map .int))) M := by
  have hi : iAny fe ρ M = .ok ((xs.map fun x => D.t (.int x)), fun _ => true) M := by
    unfold iAny
    rw [he]
    simp [R.bind, itemsB, Function.comp_def]
  rw [eLc_pure (f := fun d => match d with | .t (.int x) => .int (f x) | _ => .non) hi hM (by simpa using hl) ?_]
  · simp [Function.comp_def]
  · intro d hd acc
    obtain ⟨x, hx, rfl⟩ := List.mem_map.1 hd
    exact ⟨_, rfl, h x hx acc⟩
theorem eListRg_ok {f : FRg} {ρ : List D} {M M1 : Mem} {a b : Int} (h : f ρ M = .ok (a, b) M1) (hr : rgOk a b = true) : eListRg f ρ M = .ok (.t (.lst ((rgT a b).map .int))) M1 := by
  unfold eListRg
  rw [h]
  generalize hq : rgOk a b = q at hr
  subst hr
  simp only [R.bind, hq, ite_true]
theorem loop_inv {g : FG} {body : FS} {I : Nat → List D → Mem → Prop} : ∀ (items : List D) (ρ : List D) (M : Mem), I items.length ρ M →
    (∀ d ∈ items, ∀ m ρ M, I (m + 1) ρ M → ∃ ρ1, g d ρ M = some ρ1 ∧ ∃ ρ2 M2, body ρ1 M = .nx ρ2 M2 ∧ I m ρ2 M2) → ∃ ρ' M', loopS g body (fun _ => true) items ρ M = .nx ρ' M' ∧ I 0 ρ' M'
  | [], ρ, M, h, _ => ⟨ρ, M, rfl, h⟩
  | d :: ds, ρ, M, h, hb => by
    obtain ⟨ρ1, e1, ρ2, M2, e2, h2⟩ := hb d List.mem_cons_self _ ρ M h
    obtain ⟨ρ', M', e3, h3⟩ := loop_inv (g := g) (body := body) (I := I) ds ρ2 M2 h2 fun d hd => hb d (List.mem_cons_of_mem _ hd)
    refine ⟨ρ', M', ?_, h3⟩
    simp only [loopS, e1, e2, ite_true, e3]
theorem toPys_ints : ∀ xs : List Int, toPys (xs.map .int) = some (xs.map PyData.int)
  | [] => by simp [toPys]
  | x :: r => by simp [toPys, toPy, toPys_ints r]
theorem toPy_ints (xs : List Int) : toPy (.lst (xs.map .int)) = some (.list (xs.map PyData.int)) := by
  unfold toPy
  rw [toPys_ints]; rfl
theorem eqvAll_ints : ∀ xs ys : List Int, PyData.eqvAll (xs.map PyData.int) (ys.map PyData.int) = decide (xs = ys)
  | [], [] => by simp [PyData.eqvAll]
  | [], _ :: _ => by simp [PyData.eqvAll]
  | _ :: _, [] => by simp [PyData.eqvAll]
  | x :: r, y :: q => by
    simp only [List.map_cons, PyData.eqvAll, PyData.eqv, eqvAll_ints r q]
    by_cases h1 : x = y <;> by_cases h2 : r = q <;> simp [h1, h2]
theorem dEqB_ints (M : Mem) (xs ys : List Int) : dEqB M (.t (.lst (xs.map .int))) (.t (.lst (ys.map .int))) = some (decide (xs = ys)) := by
  unfold dEqB
  simp only [vwT, toPy_ints]
  rw [if_pos ⟨PySem.W.shaped_ints xs, PySem.W.shaped_ints ys⟩]
  simp only [PyData.eqv, eqvAll_ints]
theorem dNe_same (M : Mem) (xs : List Int) : dNe (.t (.lst (xs.map .int))) (.t (.lst (xs.map .int))) M = .ok (.t (.bl false)) M := by
  unfold dNe; rw [dEqB_ints]; simp
theorem eDict1 {k : Str} {f : FE} {x : T} {ρ : List D} {M : Mem} (hf : ∀ M', f ρ M' = .ok (.t x) M') (hM : Mem.ok M = true) : eDict [(eC (.str k), f)] ρ M = .ok (.t (.dct [(.inr k, x)])) M := by
  unfold eDict eDictC
  simp only [ePairs, eC, R.bind, hf]
  have e : dispK M.length (M ++ [.dct []]) [(D.t (.str k), D.t x)] = some [(.inr k, .t x)] := by
    unfold dispK
    have h1 : (M ++ [Cel.dct []])[M.length]? = some (.dct []) := by simp
    rw [h1]
    simp [keyed, toKey, mrgK, setK]
  rw [e]
  have e2 : (M ++ [Cel.dct []]).set M.length (.dct [(.inr k, D.t x)]) = M ++ [.dct ([((.inr k : Key), x)].map fun kv => (kv.1, D.t kv.2))] := by simp
  simp only [e2]
  exact unC_dct hM
end LL
namespace K12
open PySem L2 LL
abbrev pr : Program := PySem.Challenge.pw_looselaces_k12_pulls_known_by_hand
def top (i : Nat) : Stmt := pr.main.body.getD i (.Pass ⟨0, 0, 0, 0⟩)
def clB : Stmt → List Stmt
  | .ClassDef _ _ _ b _ _ _ _ _ _ _ => b
  | _ => []
def cls (K : PySem.W.Frag) (i : Nat) : Addr := He.ga K (["World", "Lace", "State"].getD i "")
def xcl (K : PySem.W.Frag) (i : Nat) : Addr := 0
abbrev st_is_number : Stmt := (top 16)
abbrev st_is_list : Stmt := (top 17)
abbrev st_is_name : Stmt := (top 18)
abbrev st_are_names : Stmt := (top 19)
abbrev st_is_product_of : Stmt := (top 20)
abbrev st_is_small_of : Stmt := (top 21)
abbrev st_is_fact_of : Stmt := (top 22)
abbrev st_in_order : Stmt := (top 23)
abbrev st_World_init : Stmt := ((clB (top 25)).getD 0 (.Pass ⟨0, 0, 0, 0⟩))
abbrev st_from_one : Stmt := (top 26)
abbrev st_worth_by : Stmt := (top 27)
abbrev st_are_powers : Stmt := (top 28)
abbrev st_need_powers : Stmt := (top 29)
abbrev st_Lace_init : Stmt := ((clB (top 38)).getD 0 (.Pass ⟨0, 0, 0, 0⟩))
abbrev st_Lace_stretches : Stmt := ((clB (top 38)).getD 4 (.Pass ⟨0, 0, 0, 0⟩))
abbrev st_need_lace : Stmt := (top 39)
abbrev st_is_move : Stmt := (top 40)
abbrev st_is_deed : Stmt := (top 41)
abbrev st_own_deed : Stmt := (top 42)
abbrev st_reach_of : Stmt := (top 43)
abbrev st_way_of : Stmt := (top 44)
abbrev st_State_init : Stmt := ((clB (top 45)).getD 0 (.Pass ⟨0, 0, 0, 0⟩))
abbrev st_need_state : Stmt := (top 46)
abbrev st_pulls : Stmt := (top 47)
abbrev st_law_begun : Stmt := (top 49)
abbrev st_law_mixed : Stmt := (top 50)
abbrev st_law_take : Stmt := (top 51)
abbrev st_law_pick : Stmt := (top 52)
abbrev st_law_told : Stmt := (top 53)
abbrev st_law : Stmt := (top 54)
abbrev N_is_number : List Str := ["thing"]
abbrev N_is_list : List Str := ["thing"]
abbrev N_is_name : List Str := ["thing", "sign"]
abbrev N_are_names : List Str := ["thing", "most", "item"]
abbrev N_is_product_of : List Str := ["names", "thing", "name"]
abbrev N_is_small_of : List Str := ["names", "thing", "name"]
abbrev N_is_fact_of : List Str := ["names", "thing"]
abbrev N_in_order : List Str := ["product", "name"]
abbrev N_World_init : List Str := ["self", "grips", "forces", "facts", "name", "names", "fact", "low", "high"]
abbrev N_from_one : List Str := ["world", "name", "low", "high"]
abbrev N_worth_by : List Str := ["product", "powers", "name"]
abbrev N_are_powers : List Str := ["world", "thing", "name", "product"]
abbrev N_need_powers : List Str := ["world", "powers"]
abbrev N_Lace_init : List Str := ["self", "world", "eyes", "rest", "eye"]
abbrev N_Lace_stretches : List Str := ["self"]
abbrev N_need_lace : List Str := ["lace"]
abbrev N_is_move : List Str := ["lace", "thing", "part"]
abbrev N_is_deed : List Str := ["lace", "tied", "thing"]
abbrev N_own_deed : List Str := ["deed"]
abbrev N_reach_of : List Str := ["lace", "tied", "side"]
abbrev N_way_of : List Str := ["lace", "side", "stretch", "found", "eye"]
abbrev N_State_init : List Str := ["self", "lace", "deeds", "tied", "at", "deed"]
abbrev N_need_state : List Str := ["state"]
abbrev N_pulls : List Str := ["state", "powers", "lace", "tied", "found", "deed", "force", "stretch", "way", "now"]
abbrev N_law_begun : List Str := ["_law_script", "_law_wide", "_law_grain"]
abbrev N_law_mixed : List Str := ["_law_draw", "_law_turn", "_law_found", "_law_prime", "_law_blend", "_law_grain"]
abbrev N_law_take : List Str := ["_law_draw", "_law_size", "_law_found"]
abbrev N_law_pick : List Str := ["_law_draw", "_law_some"]
abbrev N_law_told : List Str := ["_law_many", "_law_acts", "_law_grip_here", "_law_tight", "_law_world_here"]
abbrev N_law : List Str := ["_law_script", "_law_draw", "_law_turn", "_law_many", "_law_grip_here", "_law_tight", "_law_spots", "_law_tug", "_law_loose", "_law_due", "_law_k", "_law_one", "_law_knot", "_law_slope"]
abbrev P_is_number : List Str := ["thing"]
abbrev P_is_list : List Str := ["thing"]
abbrev P_is_name : List Str := ["thing"]
abbrev P_are_names : List Str := ["thing", "most"]
abbrev P_is_product_of : List Str := ["names", "thing"]
abbrev P_is_small_of : List Str := ["names", "thing"]
abbrev P_is_fact_of : List Str := ["names", "thing"]
abbrev P_in_order : List Str := ["product"]
abbrev P_World_init : List Str := ["self", "grips", "forces", "facts"]
abbrev P_from_one : List Str := ["world"]
abbrev P_worth_by : List Str := ["product", "powers"]
abbrev P_are_powers : List Str := ["world", "thing"]
abbrev P_need_powers : List Str := ["world", "powers"]
abbrev P_Lace_init : List Str := ["self", "world", "eyes", "rest"]
abbrev P_Lace_stretches : List Str := ["self"]
abbrev P_need_lace : List Str := ["lace"]
abbrev P_is_move : List Str := ["lace", "thing"]
abbrev P_is_deed : List Str := ["lace", "tied", "thing"]
abbrev P_own_deed : List Str := ["deed"]
abbrev P_reach_of : List Str := ["lace", "tied", "side"]
abbrev P_way_of : List Str := ["lace", "side", "stretch"]
abbrev P_State_init : List Str := ["self", "lace", "deeds"]
abbrev P_need_state : List Str := ["state"]
abbrev P_pulls : List Str := ["state", "powers"]
abbrev P_law_begun : List Str := ["_law_script"]
abbrev P_law_mixed : List Str := ["_law_draw"]
abbrev P_law_take : List Str := ["_law_draw", "_law_size"]
abbrev P_law_pick : List Str := ["_law_draw", "_law_some"]
abbrev P_law_told : List Str := ["_law_many", "_law_acts", "_law_grip_here", "_law_tight"]
abbrev P_law : List Str := ["_law_script"]
def s_is_number_0 : FS := (sRet (eAnd (eIsi (qKd 3 [.inl "int"]) (eVar 0)) (eNot (eIsi (qKd 3 [.inl "bool"]) (eVar 0)))))
def s_is_number : FS := s_is_number_0
def m_is_number : FN := fun ds M => finX M.length (runB N_is_number.length s_is_number ds M)
def s_is_list_0 : FS := (sRet (eIsi (qKd 3 [.inl "list", .inl "tuple"]) (eVar 0)))
def s_is_list : FS := s_is_list_0
def m_is_list : FN := fun ds M => finX M.length (runB N_is_list.length s_is_list ds M)
def s_is_name_0 : FS := (sIf (fOr (fNot (asT (eIsi (qKd 3 [.inl "str"]) (eVar 0)))) (fNot (asT (eChain dLe dLe (eC (.int 1)) (eCall fLen (aCons (eVar 0) aNil)) (eC (.int 6)))))) (sRet (eC (.bl false))) sNx)
def s_is_name_1 : FS := (sRet (eCall fAll (aCons (eLc (iAny (eVar 0)) [1] (gN 1) fYes (eOp (dIn false) (eVar 1) (eC (.str "abcdefghijklmnopqrstuvwxyz")))) aNil)))
def t_is_name_0 : FS := sSeq s_is_name_0 s_is_name_1
def s_is_name : FS := t_is_name_0
def m_is_name : FN := fun ds M => finX M.length (runB N_is_name.length s_is_name ds M)
def s_are_names_0 : FS := (sIf (fOr (fNot (asT (eFn 1 0 m_is_list [] (aCons (eVar 0) aNil)))) (fOr (fNot (asT (eChain dLe dLe (eC (.int 1)) (eCall fLen (aCons (eVar 0) aNil)) (eVar 1)))) (fNot (asT (eCall fAll (aCons (eLc (iAny (eVar 0)) [2] (gN 2) fYes (eFn 1 0 m_is_name [] (aCons (eVar 2) aNil))) aNil)))))) (sRet (eC (.bl false))) sNx)
def s_are_names_1 : FS := (sRet (eOp dEq (eLenSet (eCall fList (aCons (eVar 0) aNil))) (eCall fLen (aCons (eVar 0) aNil))))
def t_are_names_0 : FS := sSeq s_are_names_0 s_are_names_1
def s_are_names : FS := t_are_names_0
def m_are_names : FN := fun ds M => finX M.length (runB N_are_names.length s_are_names ds M)
def s_is_product_of_0 : FS := (sIf (fOr (fNot (asT (eIsi (qKd 3 [.inl "dict"]) (eVar 1)))) (fNot (asT (eCall fAll (aCons (eLcK 1 [2] (gN 2) fYes (eAnd (eIsi (qKd 3 [.inl "str"]) (eVar 2)) (eOp (dIn false) (eVar 2) (eVar 0)))) aNil))))) (sRet (eC (.bl false))) sNx)
def s_is_product_of_1 : FS := (sRet (eCall fAll (aCons (eLcK 1 [2] (gN 2) fYes (eAnd (eFn 1 0 m_is_number [] (aCons (eOp dIx (eVar 1) (eVar 2)) aNil)) (eOp dNe (eOp dIx (eVar 1) (eVar 2)) (eC (.int 0))))) aNil)))
def t_is_product_of_0 : FS := sSeq s_is_product_of_0 s_is_product_of_1
def s_is_product_of : FS := t_is_product_of_0
def m_is_product_of : FN := fun ds M => finX M.length (runB N_is_product_of.length s_is_product_of ds M)
def s_is_small_of_0 : FS := (sIf (fNot (asT (eFn 2 0 m_is_product_of [] (aCons (eVar 0) (aCons (eVar 1) aNil))))) (sRet (eC (.bl false))) sNx)
def s_is_small_of_1 : FS := (sRet (eCall fAll (aCons (eLcK 1 [2] (gN 2) fYes (eChain dLe dLe (eNeg (eC (.int 9))) (eOp dIx (eVar 1) (eVar 2)) (eC (.int 9)))) aNil)))
def t_is_small_of_0 : FS := sSeq s_is_small_of_0 s_is_small_of_1
def s_is_small_of : FS := t_is_small_of_0
def m_is_small_of : FN := fun ds M => finX M.length (runB N_is_small_of.length s_is_small_of ds M)
def s_is_fact_of_0 : FS := (sIf (fOr (fNot (asT (eIsi (qKd 3 [.inl "tuple"]) (eVar 1)))) (asT (eOp dNe (eCall fLen (aCons (eVar 1) aNil)) (eC (.int 2))))) (sRet (eC (.bl false))) sNx)
def s_is_fact_of_1 : FS := (sRet (eAnd (eFn 2 0 m_is_small_of [] (aCons (eVar 0) (aCons (eOp dIx (eVar 1) (eC (.int 0))) aNil))) (eFn 2 0 m_is_small_of [] (aCons (eVar 0) (aCons (eOp dIx (eVar 1) (eC (.int 1))) aNil)))))
def t_is_fact_of_0 : FS := sSeq s_is_fact_of_0 s_is_fact_of_1
def s_is_fact_of : FS := t_is_fact_of_0
def m_is_fact_of : FN := fun ds M => finX M.length (runB N_is_fact_of.length s_is_fact_of ds M)
def s_in_order_0 : FS := (sRet (eDc (iAny (eCall fSorted (aCons (eVar 0) aNil))) [1] (gN 1) fYes (eVar 1) (eOp dIx (eVar 0) (eVar 1))))
def s_in_order : FS := s_in_order_0
def m_in_order : FN := fun ds M => finX M.length (runB N_in_order.length s_in_order ds M)
def s_World_init_0 : FS := (sIf (fNot (asT (eFn 2 0 m_are_names [] (aCons (eVar 1) (aCons (eC (.int 3)) aNil))))) sBad sNx)
def s_World_init_1 : FS := (sIf (fOr (fNot (asT (eFn 2 0 m_are_names [] (aCons (eVar 2) (aCons (eC (.int 3)) aNil))))) (asT (eCall fAny (aCons (eLc (iAny (eVar 2)) [4] (gN 4) fYes (eOp (dIn false) (eVar 4) (eVar 1))) aNil)))) sBad sNx)
def s_World_init_2 : FS := (sAsg (eCall fSorted (aCons (eLst (aStar (eVar 1) (aStar (eVar 2) aNil))) aNil)) (gN 5))
def s_World_init_3 : FS := (sIf (fOr (fNot (asT (eFn 1 0 m_is_list [] (aCons (eVar 3) aNil)))) (fOr (asT (eOp dGt (eCall fLen (aCons (eVar 3) aNil)) (eC (.int 9)))) (fNot (asT (eCall fAll (aCons (eLc (iAny (eVar 3)) [6] (gN 6) fYes (eFn 2 0 m_is_fact_of [] (aCons (eVar 5) (aCons (eVar 6) aNil)))) aNil)))))) sBad sNx)
def s_World_init_4 : FS := (sFldD 0 "own_grips" (eVar 0) (eCall fTuple (aCons (eCall fSorted (aCons (eVar 1) aNil)) aNil)))
def s_World_init_5 : FS := (sFldD 0 "own_forces" (eVar 0) (eCall fTuple (aCons (eCall fSorted (aCons (eVar 2) aNil)) aNil)))
def s_World_init_6 : FS := (sFldD 0 "own_names" (eVar 0) (eCall fTuple (aCons (eVar 5) aNil)))
def s_World_init_7 : FS := (sFldD 0 "own_facts" (eVar 0) (eLc (iAny (eVar 3)) [7, 8] (gT [7, 8]) fYes (eTup (aCons (eFn 1 0 m_in_order [] (aCons (eVar 7) aNil)) (aCons (eFn 1 0 m_in_order [] (aCons (eVar 8) aNil)) aNil)))))
def t_World_init_6 : FS := sSeq s_World_init_6 s_World_init_7
def t_World_init_5 : FS := sSeq s_World_init_5 t_World_init_6
def t_World_init_4 : FS := sSeq s_World_init_4 t_World_init_5
def t_World_init_3 : FS := sSeq s_World_init_3 t_World_init_4
def t_World_init_2 : FS := sSeq s_World_init_2 t_World_init_3
def t_World_init_1 : FS := sSeq s_World_init_1 t_World_init_2
def t_World_init_0 : FS := sSeq s_World_init_0 t_World_init_1
def s_World_init : FS := t_World_init_0
def m_World_init : FN := fun ds M => finX M.length (runB N_World_init.length s_World_init ds M)
def s_from_one_0 : FS := (sRet (eLst (aStar (eLc (iAny (eFld 0 "own_grips" (eVar 0))) [1] (gN 1) fYes (eDict [((eVar 1), (eC (.int 1)))])) (aStar (eLc (iAny (eFld 0 "own_facts" (eVar 0))) [2, 3] (gT [2, 3]) fYes eBad) aNil))))
def s_from_one : FS := s_from_one_0
def m_from_one : FN := fun ds M => finX M.length (runB N_from_one.length s_from_one ds M)
def s_worth_by_0 : FS := (sRet (eCall fSum (aCons (eLcK 0 [2] (gN 2) fYes (eOp dMul (eOp dIx (eVar 0) (eVar 2)) (eOp dIx (eVar 1) (eVar 2)))) aNil)))
def s_worth_by : FS := s_worth_by_0
def m_worth_by : FN := fun ds M => finX M.length (runB N_worth_by.length s_worth_by ds M)
def s_are_powers_0 : FS := (sIf (fOr (fNot (asT (eIsi (qKd 3 [.inl "dict"]) (eVar 1)))) (asT (eOp dNe (eCall fLen (aCons (eVar 1) aNil)) (eCall fLen (aCons (eFld 0 "own_names" (eVar 0)) aNil))))) (sRet (eC (.bl false))) sNx)
def s_are_powers_1 : FS := (sIf (fNot (asT (eCall fAll (aCons (eLc (iAny (eFld 0 "own_names" (eVar 0))) [2] (gN 2) fYes (eAnd (eOp (dIn false) (eVar 2) (eVar 1)) (eFn 1 0 m_is_number [] (aCons (eOp dIx (eVar 1) (eVar 2)) aNil)))) aNil)))) (sRet (eC (.bl false))) sNx)
def s_are_powers_2 : FS := (sRet (eCall fAll (aCons (eLc (iAny (eFn 1 0 m_from_one [] (aCons (eVar 0) aNil))) [3] (gN 3) fYes (eOp dGe (eFn 2 0 m_worth_by [] (aCons (eVar 3) (aCons (eVar 1) aNil))) (eC (.int 0)))) aNil)))
def t_are_powers_1 : FS := sSeq s_are_powers_1 s_are_powers_2
def t_are_powers_0 : FS := sSeq s_are_powers_0 t_are_powers_1
def s_are_powers : FS := t_are_powers_0
def m_are_powers : FN := fun ds M => finX M.length (runB N_are_powers.length s_are_powers ds M)
def s_need_powers_0 : FS := (sIf (fNot (asT (eFn 2 0 m_are_powers [] (aCons (eVar 0) (aCons (eVar 1) aNil))))) sBad sNx)
def s_need_powers : FS := s_need_powers_0
def m_need_powers : FN := fun ds M => finX M.length (runB N_need_powers.length s_need_powers ds M)
def s_Lace_init_0 : FS := (sIf (fNot (asT (eIsi (qKd 3 [.inr 0]) (eVar 1)))) sBad sNx)
def s_Lace_init_1 : FS := (sIf (fOr (fNot (asT (eFn 1 0 m_is_list [] (aCons (eVar 2) aNil)))) (fNot (asT (eChain dLe dLe (eC (.int 1)) (eCall fLen (aCons (eVar 2) aNil)) (eC (.int 5)))))) sBad sNx)
def s_Lace_init_2 : FS := (sIf (fNot (asT (eCall fAll (aCons (eLc (iAny (eVar 2)) [4] (gN 4) fYes (eAnd (eIsi (qKd 3 [.inl "str"]) (eVar 4)) (eOp (dIn false) (eVar 4) (eFld 0 "own_grips" (eVar 1))))) aNil)))) sBad sNx)
def s_Lace_init_3 : FS := (sIf (fNot (asT (eFn 2 0 m_is_small_of [] (aCons (eFld 0 "own_names" (eVar 1)) (aCons (eVar 3) aNil))))) sBad sNx)
def s_Lace_init_4 : FS := (sFldD 1 "own_world" (eVar 0) (eVar 1))
def s_Lace_init_5 : FS := (sFldD 1 "own_eyes" (eVar 0) (eCall fTuple (aCons (eVar 2) aNil)))
def s_Lace_init_6 : FS := (sFldD 1 "own_rest" (eVar 0) (eFn 1 0 m_in_order [] (aCons (eVar 3) aNil)))
def t_Lace_init_5 : FS := sSeq s_Lace_init_5 s_Lace_init_6
def t_Lace_init_4 : FS := sSeq s_Lace_init_4 t_Lace_init_5
def t_Lace_init_3 : FS := sSeq s_Lace_init_3 t_Lace_init_4
def t_Lace_init_2 : FS := sSeq s_Lace_init_2 t_Lace_init_3
def t_Lace_init_1 : FS := sSeq s_Lace_init_1 t_Lace_init_2
def t_Lace_init_0 : FS := sSeq s_Lace_init_0 t_Lace_init_1
def s_Lace_init : FS := t_Lace_init_0
def m_Lace_init : FN := fun ds M => finX M.length (runB N_Lace_init.length s_Lace_init ds M)
def s_Lace_stretches_0 : FS := (sRet (eOp dAdd (eCall fLen (aCons (eFld 1 "own_eyes" (eVar 0)) aNil)) (eC (.int 1))))
def s_Lace_stretches : FS := s_Lace_stretches_0
def m_Lace_stretches : FN := fun ds M => finX M.length (runB N_Lace_stretches.length s_Lace_stretches ds M)
def s_need_lace_0 : FS := (sIf (fNot (asT (eIsi (qKd 3 [.inr 1]) (eVar 0)))) sBad sNx)
def s_need_lace : FS := s_need_lace_0
def m_need_lace : FN := fun ds M => finX M.length (runB N_need_lace.length s_need_lace ds M)
def s_is_move_0 : FS := (sIf (fOr (fNot (asT (eIsi (qKd 3 [.inl "tuple"]) (eVar 1)))) (fOr (asT (eOp dNe (eCall fLen (aCons (eVar 1) aNil)) (eC (.int 3)))) (fNot (asT (eCall fAll (aCons (eLc (iAny (eSl (eVar 1) oNone (oSome (eC (.int 2))))) [2] (gN 2) fYes (eIsi (qKd 3 [.inl "str"]) (eVar 2))) aNil)))))) (sRet (eC (.bl false))) sNx)
def s_is_move_1 : FS := (sIf (fOr (asT (eOp (dIn true) (eOp dIx (eVar 1) (eC (.int 0))) (eTup (aCons (eC (.str "tug")) (aCons (eC (.str "let")) aNil))))) (asT (eOp (dIn true) (eOp dIx (eVar 1) (eC (.int 1))) (eTup (aCons (eC (.str "left")) (aCons (eC (.str "right")) aNil)))))) (sRet (eC (.bl false))) sNx)
def s_is_move_2 : FS := (sRet (eFn 2 0 m_is_small_of [] (aCons (eFld 0 "own_names" (eFld 1 "own_world" (eVar 0))) (aCons (eOp dIx (eVar 1) (eC (.int 2))) aNil))))
def t_is_move_1 : FS := sSeq s_is_move_1 s_is_move_2
def t_is_move_0 : FS := sSeq s_is_move_0 t_is_move_1
def s_is_move : FS := t_is_move_0
def m_is_move : FN := fun ds M => finX M.length (runB N_is_move.length s_is_move ds M)
def s_is_deed_0 : FS := (sIf (asT (eFn 2 0 m_is_move [] (aCons (eVar 0) (aCons (eVar 2) aNil)))) (sRet (eC (.bl true))) sNx)
def s_is_deed_1 : FS := (sIf (fOr (fNot (asT (eIsi (qKd 3 [.inl "tuple"]) (eVar 2)))) (fOr (asT (eOp dNe (eCall fLen (aCons (eVar 2) aNil)) (eC (.int 2)))) (fOr (fNot (asT (eIsi (qKd 3 [.inl "str"]) (eOp dIx (eVar 2) (eC (.int 0)))))) (asT (eOp dNe (eOp dIx (eVar 2) (eC (.int 0))) (eC (.str "tie"))))))) (sRet (eC (.bl false))) sNx)
def s_is_deed_2 : FS := (sRet (eAnd (eFn 1 0 m_is_number [] (aCons (eOp dIx (eVar 2) (eC (.int 1))) aNil)) (eAnd (eChain dLe dLt (eC (.int 0)) (eOp dIx (eVar 2) (eC (.int 1))) (eProp 1 m_Lace_stretches (eVar 0))) (eOp (dIn true) (eOp dIx (eVar 2) (eC (.int 1))) (eVar 1)))))
def t_is_deed_1 : FS := sSeq s_is_deed_1 s_is_deed_2
def t_is_deed_0 : FS := sSeq s_is_deed_0 t_is_deed_1
def s_is_deed : FS := t_is_deed_0
def m_is_deed : FN := fun ds M => finX M.length (runB N_is_deed.length s_is_deed ds M)
def s_own_deed_0 : FS := (sRet (eIf (asT (eOp dEq (eOp dIx (eVar 0) (eC (.int 0))) (eC (.str "tie")))) (eVar 0) (eTup (aCons (eOp dIx (eVar 0) (eC (.int 0))) (aCons (eOp dIx (eVar 0) (eC (.int 1))) (aCons (eFn 1 0 m_in_order [] (aCons (eOp dIx (eVar 0) (eC (.int 2))) aNil)) aNil))))))
def s_own_deed : FS := s_own_deed_0
def m_own_deed : FN := fun ds M => finX M.length (runB N_own_deed.length s_own_deed ds M)
def s_reach_of_0 : FS := (sIf (asT (eOp dEq (eVar 2) (eC (.str "left")))) (sRet (eListRg (rg1 (eOp dAdd (eCall fMin (aCons (eLst (aStar (eVar 1) (aCons (eOp dSub (eProp 1 m_Lace_stretches (eVar 0)) (eC (.int 1))) aNil))) aNil)) (eC (.int 1)))))) sNx)
def s_reach_of_1 : FS := (sRet (eListRg (rg2 (eCall fMax (aCons (eLst (aStar (eVar 1) (aCons (eC (.int 0)) aNil))) aNil)) (eProp 1 m_Lace_stretches (eVar 0)))))
def t_reach_of_0 : FS := sSeq s_reach_of_0 s_reach_of_1
def s_reach_of : FS := t_reach_of_0
def m_reach_of : FN := fun ds M => finX M.length (runB N_reach_of.length s_reach_of ds M)
def s_way_of_b0_0 : FS := (sSub (eVar 3) (eVar 4) (eOp dAdd (eGet (eVar 3) (eVar 4) (eC (.int 0))) (eC (.int 1))))
def s_way_of_0 : FS := (sAsg eDict0C (gN 3))
def s_way_of_1 : FS := (sFor (iAny (eIf (asT (eOp dEq (eVar 1) (eC (.str "left")))) (eSl (eFld 1 "own_eyes" (eVar 0)) oNone (oSome (eVar 2))) (eSl (eFld 1 "own_eyes" (eVar 0)) (oSome (eVar 2)) oNone))) (gN 4) s_way_of_b0_0)
def s_way_of_2 : FS := (sRet (eFn 1 1 m_in_order [] (aCons (eVar 3) aNil)))
def t_way_of_1 : FS := sSeq s_way_of_1 s_way_of_2
def t_way_of_0 : FS := sSeq s_way_of_0 t_way_of_1
def s_way_of : FS := t_way_of_0
def m_way_of : FN := fun ds M => finX M.length (runB N_way_of.length s_way_of ds M)
def s_State_init_b0_0 : FS := (sIf (fNot (asT (eFn 3 2 m_is_deed [] (aCons (eVar 1) (aCons (eVar 3) (aCons (eVar 5) aNil)))))) sBad sNx)
def s_State_init_b0_1 : FS := (sIf (asT (eOp dEq (eOp dIx (eVar 5) (eC (.int 0))) (eC (.str "tie")))) (sExpr (eLm mAppend (eVar 3) (eOp dIx (eVar 5) (eC (.int 1))))) sNx)
def t_State_init_b0_0 : FS := sSeq s_State_init_b0_0 s_State_init_b0_1
def s_State_init_0 : FS := (sExpr (eFn 1 0 m_need_lace [] (aCons (eVar 1) aNil)))
def s_State_init_1 : FS := (sIf (fNot (asT (eFn 1 0 m_is_list [] (aCons (eVar 2) aNil)))) sBad sNx)
def s_State_init_2 : FS := (sAsg (eLstC aNil) (gN 3))
def s_State_init_3 : FS := (sFor (iEnumD (aCons (eVar 2) aNil)) (gT [4, 5]) t_State_init_b0_0)
def s_State_init_4 : FS := (sIf (asT (eOp dGt (eCall fLen (aCons (eVar 2) aNil)) (eC (.int 8)))) sBad sNx)
def s_State_init_5 : FS := (sFldD 2 "own_lace" (eVar 0) (eVar 1))
def s_State_init_6 : FS := (sFldD 2 "own_deeds" (eVar 0) (eLc (iAny (eVar 2)) [5] (gN 5) fYes (eFn 1 0 m_own_deed [] (aCons (eVar 5) aNil))))
def s_State_init_7 : FS := (sFldD 2 "own_tied" (eVar 0) (eCall fTuple (aCons (eCall fSorted (aCons (eVar 3) aNil)) aNil)))
def t_State_init_6 : FS := sSeq s_State_init_6 s_State_init_7
def t_State_init_5 : FS := sSeq s_State_init_5 t_State_init_6
def t_State_init_4 : FS := sSeq s_State_init_4 t_State_init_5
def t_State_init_3 : FS := sSeq s_State_init_3 t_State_init_4
def t_State_init_2 : FS := sSeq s_State_init_2 t_State_init_3
def t_State_init_1 : FS := sSeq s_State_init_1 t_State_init_2
def t_State_init_0 : FS := sSeq s_State_init_0 t_State_init_1
def s_State_init : FS := t_State_init_0
def m_State_init : FN := fun ds M => finX M.length (runB N_State_init.length s_State_init ds M)
def s_need_state_0 : FS := (sIf (fNot (asT (eIsi (qKd 3 [.inr 2]) (eVar 0)))) sBad sNx)
def s_need_state : FS := s_need_state_0
def m_need_state : FN := fun ds M => finX M.length (runB N_need_state.length s_need_state ds M)
def s_pulls_b1_0 : FS := (sAsg (eFn 2 0 m_worth_by [] (aCons (eFn 3 0 m_way_of [] (aCons (eVar 2) (aCons (eOp dIx (eVar 5) (eC (.int 1))) (aCons (eVar 7) aNil)))) (aCons (eVar 1) aNil))) (gN 8))
def s_pulls_b1_1 : FS := (sAsg (eOp dIx (eVar 4) (eVar 7)) (gN 9))
def s_pulls_b1_2 : FS := (sSub (eVar 4) (eVar 7) (eIf (asT (eOp dEq (eOp dIx (eVar 5) (eC (.int 0))) (eC (.str "tug")))) (eCall fMax (aCons (eVar 9) (aCons (eOp dSub (eVar 6) (eVar 8)) aNil))) (eCall fMin (aCons (eVar 9) (aCons (eOp dAdd (eVar 6) (eVar 8)) aNil)))))
def t_pulls_b1_1 : FS := sSeq s_pulls_b1_1 s_pulls_b1_2
def t_pulls_b1_0 : FS := sSeq s_pulls_b1_0 t_pulls_b1_1
def s_pulls_b0_0 : FS := (sIf (asT (eOp dEq (eOp dIx (eVar 5) (eC (.int 0))) (eC (.str "tie")))) (sSeq (sExpr (eLm mAppend (eVar 3) (eOp dIx (eVar 5) (eC (.int 1))))) sCnt) sNx)
def s_pulls_b0_1 : FS := (sAsg (eFn 2 0 m_worth_by [] (aCons (eOp dIx (eVar 5) (eC (.int 2))) (aCons (eVar 1) aNil))) (gN 6))
def s_pulls_b0_2 : FS := (sFor (iAny (eFn 3 1 m_reach_of [] (aCons (eVar 2) (aCons (eVar 3) (aCons (eOp dIx (eVar 5) (eC (.int 1))) aNil))))) (gN 7) t_pulls_b1_0)
def t_pulls_b0_1 : FS := sSeq s_pulls_b0_1 s_pulls_b0_2
def t_pulls_b0_0 : FS := sSeq s_pulls_b0_0 t_pulls_b0_1
def s_pulls_0 : FS := (sExpr (eFn 1 0 m_need_state [] (aCons (eVar 0) aNil)))
def s_pulls_1 : FS := (sExpr (eFn 2 0 m_need_powers [] (aCons (eFld 1 "own_world" (eFld 2 "own_lace" (eVar 0))) (aCons (eVar 1) aNil))))
def s_pulls_2 : FS := (sPar 2 3 (aCons (eFld 2 "own_lace" (eVar 0)) (aCons (eLstC aNil) aNil)))
def s_pulls_3 : FS := (sAsg (eOp dMulC (eLst (aCons (eFn 2 0 m_worth_by [] (aCons (eFld 1 "own_rest" (eVar 2)) (aCons (eVar 1) aNil))) aNil)) (eProp 1 m_Lace_stretches (eVar 2))) (gN 4))
def s_pulls_4 : FS := (sFor (iAny (eFld 2 "own_deeds" (eVar 0))) (gN 5) t_pulls_b0_0)
def s_pulls_5 : FS := (sRet (eVar 4))
def t_pulls_4 : FS := sSeq s_pulls_4 s_pulls_5
def t_pulls_3 : FS := sSeq s_pulls_3 t_pulls_4
def t_pulls_2 : FS := sSeq s_pulls_2 t_pulls_3
def t_pulls_1 : FS := sSeq s_pulls_1 t_pulls_2
def t_pulls_0 : FS := sSeq s_pulls_0 t_pulls_1
def s_pulls : FS := t_pulls_0
def m_pulls : FN := fun ds M => finX M.length (runB N_pulls.length s_pulls ds M)
def s_law_begun_0 : FS := (sAsg (eLcC (iScr (eVar 0)) [2] (gN 2) (asT (eOp dGe (eCall fAbs (aCons (eVar 2) aNil)) (eOp dPow (eC (.int 10)) (eC (.int 18))))) (eOp dSub (eCall fAbs (aCons (eVar 2) aNil)) (eOp dPow (eC (.int 10)) (eC (.int 18))))) (gN 1))
def s_law_begun_1 : FS := (sRet (eDictC [((eC (.str "wide")), (eVar 1)), ((eC (.str "cells")), (eLc (iScr (eVar 0)) [2] (gN 2) fYes (eOp dMod (eCall fInt (aCons (eCall fAbs (aCons (eVar 2) aNil)) aNil)) (eC (.int 2147483629))))), ((eC (.str "rest")), (eC (.int 0))), ((eC (.str "turn")), (eC (.int 0)))]))
def t_law_begun_0 : FS := sSeq s_law_begun_0 s_law_begun_1
def s_law_begun : FS := t_law_begun_0
def m_law_begun : FN := runB N_law_begun.length s_law_begun
def s_law_mixed_b1_0 : FS := (sAsg (eOp dMod (eCall fInt (aCons (eOp dAdd (eOp dAdd (eOp dMul (eVar 4) (eC (.int 48271))) (eVar 5)) (eVar 1)) aNil)) (eVar 3)) (gN 4))
def s_law_mixed_b0_0 : FS := (sAsg (eOp dAdd (eOp dMul (eC (.int 69621)) (eVar 1)) (eOp dDiv (eVar 3) (eC (.int 23)))) (gN 4))
def s_law_mixed_b0_1 : FS := (sFor (iAny (eOp dIx (eVar 0) (eC (.str "cells")))) (gN 5) s_law_mixed_b1_0)
def s_law_mixed_b0_2 : FS := (sAsg (eOp dAdd (eOp dMul (eVar 2) (eC (.int 2147483647))) (eOp dMod (eCall fInt (aCons (eOp dPow (eVar 4) (eC (.int 5))) aNil)) (eVar 3))) (gN 2))
def t_law_mixed_b0_1 : FS := sSeq s_law_mixed_b0_1 s_law_mixed_b0_2
def t_law_mixed_b0_0 : FS := sSeq s_law_mixed_b0_0 t_law_mixed_b0_1
def s_law_mixed_0 : FS := (sPar 1 2 (aCons (eOp dAdd (eOp dIx (eVar 0) (eC (.str "turn"))) (eC (.int 1))) (aCons (eC (.int 0)) aNil)))
def s_law_mixed_1 : FS := (sSub (eVar 0) (eC (.str "turn")) (eVar 1))
def s_law_mixed_2 : FS := (sFor (iAny (eLst (aCons (eC (.int 2147483647)) (aCons (eC (.int 2147483629)) (aCons (eC (.int 2147483587)) (aCons (eC (.int 2147483579)) aNil)))))) (gN 3) t_law_mixed_b0_0)
def s_law_mixed_3 : FS := (sRet (eVar 2))
def t_law_mixed_2 : FS := sSeq s_law_mixed_2 s_law_mixed_3
def t_law_mixed_1 : FS := sSeq s_law_mixed_1 t_law_mixed_2
def t_law_mixed_0 : FS := sSeq s_law_mixed_0 t_law_mixed_1
def s_law_mixed : FS := t_law_mixed_0
def m_law_mixed : FN := fun ds M => finX M.length (runB N_law_mixed.length s_law_mixed ds M)
def s_law_take_0 : FS := (sIf (asT (eOp dEq (eOp dIx (eVar 0) (eC (.str "rest"))) (eC (.int 0)))) (sSub (eVar 0) (eC (.str "rest")) (eIf (asT (eOp dNe (eOp dIx (eVar 0) (eC (.str "wide"))) (eLst aNil))) (eLm mPop (eOp dIx (eVar 0) (eC (.str "wide"))) (eC (.int 0))) (eFn 1 2 m_law_mixed [] (aCons (eVar 0) aNil)))) sNx)
def s_law_take_1 : FS := (sAsg (eOp dMod (eCall fInt (aCons (eOp dIx (eVar 0) (eC (.str "rest"))) aNil)) (eVar 1)) (gN 2))
def s_law_take_2 : FS := (sSub (eVar 0) (eC (.str "rest")) (eOp dDiv (eOp dIx (eVar 0) (eC (.str "rest"))) (eVar 1)))
def s_law_take_3 : FS := (sRet (eVar 2))
def t_law_take_2 : FS := sSeq s_law_take_2 s_law_take_3
def t_law_take_1 : FS := sSeq s_law_take_1 t_law_take_2
def t_law_take_0 : FS := sSeq s_law_take_0 t_law_take_1
def s_law_take : FS := t_law_take_0
def m_law_take : FN := fun ds M => finX M.length (runB N_law_take.length s_law_take ds M)
def s_law_pick_0 : FS := (sRet (eOp dIx (eVar 1) (eFn 2 2 m_law_take [] (aCons (eVar 0) (aCons (eCall fLen (aCons (eVar 1) aNil)) aNil)))))
def s_law_pick : FS := s_law_pick_0
def m_law_pick : FN := fun ds M => finX M.length (runB N_law_pick.length s_law_pick ds M)
def s_law_told_0 : FS := (sAsg (eMake 4 0 m_World_init [.tup []] (aCons (eLst (aCons (eC (.str "g")) aNil)) (aCons (eLst (aCons (eC (.str "f")) aNil)) aNil))) (gN 4))
def s_law_told_1 : FS := (sRet (eFn 2 0 m_pulls [] (aCons (eMake 3 2 m_State_init [] (aCons (eMake 4 1 m_Lace_init [] (aCons (eVar 4) (aCons (eOp dMul (eLst (aCons (eC (.str "g")) aNil)) (eVar 0)) (aCons (eC (.dct [])) aNil)))) (aCons (eVar 1) aNil))) (aCons (eDict [((eC (.str "g")), (eVar 2)), ((eC (.str "f")), (eVar 3))]) aNil))))
def t_law_told_0 : FS := sSeq s_law_told_0 s_law_told_1
def s_law_told : FS := t_law_told_0
def m_law_told : FN := fun ds M => finX M.length (runB N_law_told.length s_law_told ds M)
def s_law_b0_0 : FS := (sAsg (eTup (aCons (eOp dAdd (eC (.int 1)) (eFn 2 2 m_law_take [] (aCons (eVar 1) (aCons (eC (.int 5)) aNil)))) (aCons (eFn 2 2 m_law_take [] (aCons (eVar 1) (aCons (eFn 2 2 m_law_pick [] (aCons (eVar 1) (aCons (eLst (aCons (eC (.int 1)) (aCons (eC (.int 3)) (aCons (eOp dPow (eC (.int 10)) (eC (.int 12))) aNil)))) aNil))) aNil))) aNil))) (gT [3, 4]))
def s_law_b0_1 : FS := (sAsg (eTup (aCons (eFn 2 2 m_law_take [] (aCons (eVar 1) (aCons (eFn 2 2 m_law_pick [] (aCons (eVar 1) (aCons (eLst (aCons (eC (.int 1)) (aCons (eC (.int 9)) (aCons (eOp dPow (eC (.int 10)) (eC (.int 13))) aNil)))) aNil))) aNil))) (aCons (eListRg (rg1 (eOp dAdd (eVar 3) (eC (.int 1))))) aNil))) (gT [5, 6]))
def s_law_b0_2 : FS := (sPar 7 8 (aCons (eTup (aCons (eC (.str "tug")) (aCons (eC (.str "left")) (aCons (eDict [((eC (.str "f")), (eC (.int 1)))]) aNil)))) (aCons (eTup (aCons (eC (.str "let")) (aCons (eC (.str "left")) (aCons (eDict [((eC (.str "f")), (eNeg (eC (.int 1))))]) aNil)))) aNil)))
def s_law_b0_3 : FS := (sAsg (eLc (iAny (eVar 6)) [10] (gN 10) fYes (eCall fMax (aCons (eC (.int 0)) (aCons (eOp dSub (eVar 5) (eOp dMul (eVar 4) (eVar 10))) aNil)))) (gN 9))
def s_law_b0_4 : FS := (sIf (asT (eOp dNe (eFn 4 0 m_law_told [] (aCons (eVar 3) (aCons (eLst (aCons (eVar 7) aNil)) (aCons (eVar 4) (aCons (eVar 5) aNil))))) (eVar 9))) (sRet (eC (.bl false))) sNx)
def s_law_b0_5 : FS := (sIf (asT (eOp dNe (eFn 4 0 m_law_told [] (aCons (eVar 3) (aCons (eLst (aCons (eTup (aCons (eC (.str "tug")) (aCons (eC (.str "right")) (aCons (eDict [((eC (.str "f")), (eC (.int 1)))]) aNil)))) aNil)) (aCons (eVar 4) (aCons (eVar 5) aNil))))) (eRev (eVar 9)))) (sRet (eC (.bl false))) sNx)
def s_law_b0_6 : FS := (sIf (asT (eOp dNe (eFn 4 0 m_law_told [] (aCons (eVar 3) (aCons (eLst (aCons (eVar 8) aNil)) (aCons (eVar 4) (aCons (eVar 5) aNil))))) (eLc (iAny (eVar 9)) [11] (gN 11) fYes (eOp dSub (eC (.int 0)) (eVar 11))))) (sRet (eC (.bl false))) sNx)
def s_law_b0_7 : FS := (sAsg (eLc (iAny (eVar 6)) [10] (gN 10) fYes (eCall fMin (aCons (eCall fMax (aCons (eC (.int 0)) (aCons (eOp dSub (eVar 5) (eOp dMul (eVar 4) (eVar 10))) aNil))) (aCons (eOp dMul (eVar 4) (eVar 10)) aNil)))) (gN 9))
def s_law_b0_8 : FS := (sIf (asT (eOp dNe (eFn 4 0 m_law_told [] (aCons (eVar 3) (aCons (eLst (aCons (eVar 7) (aCons (eTup (aCons (eC (.str "let")) (aCons (eC (.str "left")) (aCons (eC (.dct [])) aNil)))) aNil))) (aCons (eVar 4) (aCons (eVar 5) aNil))))) (eVar 9))) (sRet (eC (.bl false))) sNx)
def s_law_b0_9 : FS := (sAsg (eLc (iAny (eVar 6)) [10] (gN 10) fYes (eCall fMax (aCons (eC (.int 0)) (aCons (eOp dSub (eVar 5) (eOp dMul (eVar 4) (eCall fMin (aCons (eVar 10) (aCons (eOp dSub (eVar 3) (eVar 10)) aNil))))) aNil)))) (gN 9))
def s_law_b0_10 : FS := (sIf (asT (eOp dNe (eFn 4 0 m_law_told [] (aCons (eVar 3) (aCons (eLst (aCons (eVar 7) (aCons (eTup (aCons (eC (.str "tug")) (aCons (eC (.str "right")) (aCons (eDict [((eC (.str "f")), (eC (.int 1)))]) aNil)))) aNil))) (aCons (eVar 4) (aCons (eVar 5) aNil))))) (eVar 9))) (sRet (eC (.bl false))) sNx)
def s_law_b0_11 : FS := (sAsg (eLc (iAny (eVar 6)) [10] (gN 10) fYes (eCall fMin (aCons (eC (.int 0)) (aCons (eOp dSub (eOp dMul (eVar 4) (eCall fMin (aCons (eVar 10) (aCons (eOp dSub (eVar 3) (eVar 10)) aNil)))) (eVar 5)) aNil)))) (gN 9))
def s_law_b0_12 : FS := (sIf (asT (eOp dNe (eFn 4 0 m_law_told [] (aCons (eVar 3) (aCons (eLst (aCons (eVar 8) (aCons (eTup (aCons (eC (.str "let")) (aCons (eC (.str "right")) (aCons (eDict [((eC (.str "f")), (eNeg (eC (.int 1))))]) aNil)))) aNil))) (aCons (eVar 4) (aCons (eVar 5) aNil))))) (eVar 9))) (sRet (eC (.bl false))) sNx)
def s_law_b0_13 : FS := (sAsg (eFn 2 2 m_law_take [] (aCons (eVar 1) (aCons (eOp dAdd (eVar 3) (eC (.int 1))) aNil))) (gN 12))
def s_law_b0_14 : FS := (sAsg (eLc (iAny (eVar 6)) [10] (gN 10) fYes (eIf (asT (eOp dLe (eVar 10) (eVar 12))) (eCall fMax (aCons (eC (.int 0)) (aCons (eOp dSub (eVar 5) (eOp dMul (eVar 4) (eVar 10))) aNil))) (eC (.int 0)))) (gN 9))
def s_law_b0_15 : FS := (sIf (asT (eOp dNe (eFn 4 0 m_law_told [] (aCons (eVar 3) (aCons (eLst (aCons (eTup (aCons (eC (.str "tie")) (aCons (eVar 12) aNil))) (aCons (eVar 7) aNil))) (aCons (eVar 4) (aCons (eVar 5) aNil))))) (eVar 9))) (sRet (eC (.bl false))) sNx)
def s_law_b0_16 : FS := (sAsg (eLc (iAny (eVar 6)) [10] (gN 10) fYes (eIf (asT (eOp dGe (eVar 10) (eVar 12))) (eCall fMax (aCons (eC (.int 0)) (aCons (eOp dSub (eVar 5) (eOp dMul (eVar 4) (eOp dSub (eVar 3) (eVar 10)))) aNil))) (eC (.int 0)))) (gN 9))
def s_law_b0_17 : FS := (sIf (asT (eOp dNe (eFn 4 0 m_law_told [] (aCons (eVar 3) (aCons (eLst (aCons (eTup (aCons (eC (.str "tie")) (aCons (eVar 12) aNil))) (aCons (eTup (aCons (eC (.str "tug")) (aCons (eC (.str "right")) (aCons (eDict [((eC (.str "f")), (eC (.int 1)))]) aNil)))) aNil))) (aCons (eVar 4) (aCons (eVar 5) aNil))))) (eVar 9))) (sRet (eC (.bl false))) sNx)
def s_law_b0_18 : FS := (sAsg (eLc (iAny (eVar 6)) [10] (gN 10) fYes (eCall fMax (aCons (eC (.int 0)) (aCons (eOp dSub (eVar 5) (eOp dMul (eVar 4) (eVar 10))) aNil)))) (gN 9))
def s_law_b0_19 : FS := (sAsg (eLc (iEnumD (aCons (eVar 9) aNil)) [10, 11] (gT [10, 11]) fYes (eIf (asT (eOp dLe (eVar 10) (eVar 12))) (eCall fMin (aCons (eVar 11) (aCons (eOp dMul (eVar 4) (eVar 10)) aNil))) (eVar 11))) (gN 9))
def s_law_b0_20 : FS := (sIf (asT (eOp dNe (eFn 4 0 m_law_told [] (aCons (eVar 3) (aCons (eLst (aCons (eVar 7) (aCons (eTup (aCons (eC (.str "tie")) (aCons (eVar 12) aNil))) (aCons (eTup (aCons (eC (.str "let")) (aCons (eC (.str "left")) (aCons (eC (.dct [])) aNil)))) aNil)))) (aCons (eVar 4) (aCons (eVar 5) aNil))))) (eVar 9))) (sRet (eC (.bl false))) sNx)
def s_law_b0_21 : FS := (sAsg (eLc (iAny (eVar 6)) [10] (gN 10) fYes (eOp dSub (eOp dMul (eC (.int 2)) (eVar 5)) (eOp dMul (eVar 4) (eVar 10)))) (gN 13))
def s_law_b0_22 : FS := (sIf (asT (eOp dNe (eFn 4 0 m_law_told [] (aCons (eVar 3) (aCons (eLst (aCons (eVar 7) (aCons (eTup (aCons (eC (.str "tug")) (aCons (eC (.str "left")) (aCons (eDict [((eC (.str "f")), (eC (.int 2)))]) aNil)))) (aCons (eVar 7) aNil)))) (aCons (eVar 4) (aCons (eVar 5) aNil))))) (eLc (iAny (eVar 13)) [11] (gN 11) fYes (eCall fMax (aCons (eC (.int 0)) (aCons (eVar 11) aNil)))))) (sRet (eC (.bl false))) sNx)
def t_law_b0_21 : FS := sSeq s_law_b0_21 s_law_b0_22
def t_law_b0_20 : FS := sSeq s_law_b0_20 t_law_b0_21
def t_law_b0_19 : FS := sSeq s_law_b0_19 t_law_b0_20
def t_law_b0_18 : FS := sSeq s_law_b0_18 t_law_b0_19
def t_law_b0_17 : FS := sSeq s_law_b0_17 t_law_b0_18
def t_law_b0_16 : FS := sSeq s_law_b0_16 t_law_b0_17
def t_law_b0_15 : FS := sSeq s_law_b0_15 t_law_b0_16
def t_law_b0_14 : FS := sSeq s_law_b0_14 t_law_b0_15
def t_law_b0_13 : FS := sSeq s_law_b0_13 t_law_b0_14
def t_law_b0_12 : FS := sSeq s_law_b0_12 t_law_b0_13
def t_law_b0_11 : FS := sSeq s_law_b0_11 t_law_b0_12
def t_law_b0_10 : FS := sSeq s_law_b0_10 t_law_b0_11
def t_law_b0_9 : FS := sSeq s_law_b0_9 t_law_b0_10
def t_law_b0_8 : FS := sSeq s_law_b0_8 t_law_b0_9
def t_law_b0_7 : FS := sSeq s_law_b0_7 t_law_b0_8
def t_law_b0_6 : FS := sSeq s_law_b0_6 t_law_b0_7
def t_law_b0_5 : FS := sSeq s_law_b0_5 t_law_b0_6
def t_law_b0_4 : FS := sSeq s_law_b0_4 t_law_b0_5
def t_law_b0_3 : FS := sSeq s_law_b0_3 t_law_b0_4
def t_law_b0_2 : FS := sSeq s_law_b0_2 t_law_b0_3
def t_law_b0_1 : FS := sSeq s_law_b0_1 t_law_b0_2
def t_law_b0_0 : FS := sSeq s_law_b0_0 t_law_b0_1
def s_law_0 : FS := (sAsg (eFn 1 0 m_law_begun [] (aCons (eVar 0) aNil)) (gN 1))
def s_law_1 : FS := (sFor (iRg1 (aCons (eOp dAdd (eC (.int 5)) (eCall fMin (aCons (eCall fLen (aCons (eVar 0) aNil)) (aCons (eC (.int 20)) aNil)))) aNil)) (gN 2) t_law_b0_0)
def s_law_2 : FS := (sRet (eC (.bl true)))
def t_law_1 : FS := sSeq s_law_1 s_law_2
def t_law_0 : FS := sSeq s_law_0 t_law_1
def s_law : FS := t_law_0
def m_law : FN := fun ds M => finX M.length (runB N_law.length s_law ds M)
structure Gx (K : PySem.W.Frag) (mg : Str → Option Value) : Prop where
  F_is_number : FunD K "is_number" "is_number" (defArgs st_is_number) (defBody st_is_number) (defScope st_is_number) [] [] (He.ga K "is_number") (fdOf K (He.ga K "is_number"))
  F_is_list : FunD K "is_list" "is_list" (defArgs st_is_list) (defBody st_is_list) (defScope st_is_list) [] [] (He.ga K "is_list") (fdOf K (He.ga K "is_list"))
  F_is_name : FunD K "is_name" "is_name" (defArgs st_is_name) (defBody st_is_name) (defScope st_is_name) [] [] (He.ga K "is_name") (fdOf K (He.ga K "is_name"))
  F_are_names : FunD K "are_names" "are_names" (defArgs st_are_names) (defBody st_are_names) (defScope st_are_names) [] [] (He.ga K "are_names") (fdOf K (He.ga K "are_names"))
  F_is_product_of : FunD K "is_product_of" "is_product_of" (defArgs st_is_product_of) (defBody st_is_product_of) (defScope st_is_product_of) [] [] (He.ga K "is_product_of") (fdOf K (He.ga K "is_product_of"))
  F_is_small_of : FunD K "is_small_of" "is_small_of" (defArgs st_is_small_of) (defBody st_is_small_of) (defScope st_is_small_of) [] [] (He.ga K "is_small_of") (fdOf K (He.ga K "is_small_of"))
  F_is_fact_of : FunD K "is_fact_of" "is_fact_of" (defArgs st_is_fact_of) (defBody st_is_fact_of) (defScope st_is_fact_of) [] [] (He.ga K "is_fact_of") (fdOf K (He.ga K "is_fact_of"))
  F_in_order : FunD K "in_order" "in_order" (defArgs st_in_order) (defBody st_in_order) (defScope st_in_order) [] [] (He.ga K "in_order") (fdOf K (He.ga K "in_order"))
  F_World_init : FunD K "__init__" "World.__init__" (defArgs st_World_init) (defBody st_World_init) (defScope st_World_init) [.ref (He.dflAt ("World", some "__init__") 0 K)] [] (He.ma K (He.ga K "World") "__init__") (fdOf K (He.ma K (He.ga K "World") "__init__"))
  F_from_one : FunD K "from_one" "from_one" (defArgs st_from_one) (defBody st_from_one) (defScope st_from_one) [] [] (He.ga K "from_one") (fdOf K (He.ga K "from_one"))
  F_worth_by : FunD K "worth_by" "worth_by" (defArgs st_worth_by) (defBody st_worth_by) (defScope st_worth_by) [] [] (He.ga K "worth_by") (fdOf K (He.ga K "worth_by"))
  F_are_powers : FunD K "are_powers" "are_powers" (defArgs st_are_powers) (defBody st_are_powers) (defScope st_are_powers) [] [] (He.ga K "are_powers") (fdOf K (He.ga K "are_powers"))
  F_need_powers : FunD K "need_powers" "need_powers" (defArgs st_need_powers) (defBody st_need_powers) (defScope st_need_powers) [] [] (He.ga K "need_powers") (fdOf K (He.ga K "need_powers"))
  F_Lace_init : FunD K "__init__" "Lace.__init__" (defArgs st_Lace_init) (defBody st_Lace_init) (defScope st_Lace_init) [] [] (He.ma K (He.ga K "Lace") "__init__") (fdOf K (He.ma K (He.ga K "Lace") "__init__"))
  F_Lace_stretches : FunD K "stretches" "Lace.stretches" (defArgs st_Lace_stretches) (defBody st_Lace_stretches) (defScope st_Lace_stretches) [] [] (pgAd K "Lace" "stretches") (fdOf K (pgAd K "Lace" "stretches"))
  F_need_lace : FunD K "need_lace" "need_lace" (defArgs st_need_lace) (defBody st_need_lace) (defScope st_need_lace) [] [] (He.ga K "need_lace") (fdOf K (He.ga K "need_lace"))
  F_is_move : FunD K "is_move" "is_move" (defArgs st_is_move) (defBody st_is_move) (defScope st_is_move) [] [] (He.ga K "is_move") (fdOf K (He.ga K "is_move"))
  F_is_deed : FunD K "is_deed" "is_deed" (defArgs st_is_deed) (defBody st_is_deed) (defScope st_is_deed) [] [] (He.ga K "is_deed") (fdOf K (He.ga K "is_deed"))
  F_own_deed : FunD K "own_deed" "own_deed" (defArgs st_own_deed) (defBody st_own_deed) (defScope st_own_deed) [] [] (He.ga K "own_deed") (fdOf K (He.ga K "own_deed"))
  F_reach_of : FunD K "reach_of" "reach_of" (defArgs st_reach_of) (defBody st_reach_of) (defScope st_reach_of) [] [] (He.ga K "reach_of") (fdOf K (He.ga K "reach_of"))
  F_way_of : FunD K "way_of" "way_of" (defArgs st_way_of) (defBody st_way_of) (defScope st_way_of) [] [] (He.ga K "way_of") (fdOf K (He.ga K "way_of"))
  F_State_init : FunD K "__init__" "State.__init__" (defArgs st_State_init) (defBody st_State_init) (defScope st_State_init) [.ref (He.dflAt ("State", some "__init__") 0 K)] [] (He.ma K (He.ga K "State") "__init__") (fdOf K (He.ma K (He.ga K "State") "__init__"))
  F_need_state : FunD K "need_state" "need_state" (defArgs st_need_state) (defBody st_need_state) (defScope st_need_state) [] [] (He.ga K "need_state") (fdOf K (He.ga K "need_state"))
  F_pulls : FunD K "pulls" "pulls" (defArgs st_pulls) (defBody st_pulls) (defScope st_pulls) [] [] (He.ga K "pulls") (fdOf K (He.ga K "pulls"))
  F_law_begun : FunD K "_law_begun" "_law_begun" (defArgs st_law_begun) (defBody st_law_begun) (defScope st_law_begun) [] [] (He.ga K "_law_begun") (fdOf K (He.ga K "_law_begun"))
  F_law_mixed : FunD K "_law_mixed" "_law_mixed" (defArgs st_law_mixed) (defBody st_law_mixed) (defScope st_law_mixed) [] [] (He.ga K "_law_mixed") (fdOf K (He.ga K "_law_mixed"))
  F_law_take : FunD K "_law_take" "_law_take" (defArgs st_law_take) (defBody st_law_take) (defScope st_law_take) [] [] (He.ga K "_law_take") (fdOf K (He.ga K "_law_take"))
  F_law_pick : FunD K "_law_pick" "_law_pick" (defArgs st_law_pick) (defBody st_law_pick) (defScope st_law_pick) [] [] (He.ga K "_law_pick") (fdOf K (He.ga K "_law_pick"))
  F_law_told : FunD K "_law_told" "_law_told" (defArgs st_law_told) (defBody st_law_told) (defScope st_law_told) [] [] (He.ga K "_law_told") (fdOf K (He.ga K "_law_told"))
  F_law : FunD K "law" "law" (defArgs st_law) (defBody st_law) (defScope st_law) [] [] (He.ga K "law") (fdOf K (He.ga K "law"))
  g_Lace : mg "Lace" = some (.ref (cls K 1))
  g_State : mg "State" = some (.ref (cls K 2))
  g_World : mg "World" = some (.ref (cls K 0))
  g__law_begun : mg "_law_begun" = some (.ref (He.ga K "_law_begun"))
  g__law_mixed : mg "_law_mixed" = some (.ref (He.ga K "_law_mixed"))
  g__law_pick : mg "_law_pick" = some (.ref (He.ga K "_law_pick"))
  g__law_take : mg "_law_take" = some (.ref (He.ga K "_law_take"))
  g__law_told : mg "_law_told" = some (.ref (He.ga K "_law_told"))
  g_are_names : mg "are_names" = some (.ref (He.ga K "are_names"))
  g_are_powers : mg "are_powers" = some (.ref (He.ga K "are_powers"))
  g_from_one : mg "from_one" = some (.ref (He.ga K "from_one"))
  g_in_order : mg "in_order" = some (.ref (He.ga K "in_order"))
  g_is_deed : mg "is_deed" = some (.ref (He.ga K "is_deed"))
  g_is_fact_of : mg "is_fact_of" = some (.ref (He.ga K "is_fact_of"))
  g_is_list : mg "is_list" = some (.ref (He.ga K "is_list"))
  g_is_move : mg "is_move" = some (.ref (He.ga K "is_move"))
  g_is_name : mg "is_name" = some (.ref (He.ga K "is_name"))
  g_is_number : mg "is_number" = some (.ref (He.ga K "is_number"))
  g_is_product_of : mg "is_product_of" = some (.ref (He.ga K "is_product_of"))
  g_is_small_of : mg "is_small_of" = some (.ref (He.ga K "is_small_of"))
  g_law : mg "law" = some (.ref (He.ga K "law"))
  g_need_lace : mg "need_lace" = some (.ref (He.ga K "need_lace"))
  g_need_powers : mg "need_powers" = some (.ref (He.ga K "need_powers"))
  g_need_state : mg "need_state" = some (.ref (He.ga K "need_state"))
  g_own_deed : mg "own_deed" = some (.ref (He.ga K "own_deed"))
  g_pulls : mg "pulls" = some (.ref (He.ga K "pulls"))
  g_reach_of : mg "reach_of" = some (.ref (He.ga K "reach_of"))
  g_way_of : mg "way_of" = some (.ref (He.ga K "way_of"))
  g_worth_by : mg "worth_by" = some (.ref (He.ga K "worth_by"))
  b_abs : mg "abs" = none
  b_all : mg "all" = none
  b_any : mg "any" = none
  b_bool : mg "bool" = none
  b_dict : mg "dict" = none
  b_enumerate : mg "enumerate" = none
  b_int : mg "int" = none
  b_isinstance : mg "isinstance" = none
  b_len : mg "len" = none
  b_list : mg "list" = none
  b_max : mg "max" = none
  b_min : mg "min" = none
  b_range : mg "range" = none
  b_set : mg "set" = none
  b_sorted : mg "sorted" = none
  b_str : mg "str" = none
  b_sum : mg "sum" = none
  b_tuple : mg "tuple" = none
  i_LONGEST_NAME : ∃ t, mg "LONGEST_NAME" = some (.int 6 t)
  i_MOST_DEEDS : ∃ t, mg "MOST_DEEDS" = some (.int 8 t)
  i_MOST_EXPONENT : ∃ t, mg "MOST_EXPONENT" = some (.int 9 t)
  i_MOST_EYES : ∃ t, mg "MOST_EYES" = some (.int 5 t)
  i_MOST_FACTS : ∃ t, mg "MOST_FACTS" = some (.int 9 t)
  i_MOST_FORCES : ∃ t, mg "MOST_FORCES" = some (.int 3 t)
  i_MOST_GRIPS : ∃ t, mg "MOST_GRIPS" = some (.int 3 t)
  i_LEFT : ∃ t, mg "LEFT" = some (.str "left" t)
  i_LET : ∃ t, mg "LET" = some (.str "let" t)
  i_LETTERS : ∃ t, mg "LETTERS" = some (.str "abcdefghijklmnopqrstuvwxyz" t)
  i_RIGHT : ∃ t, mg "RIGHT" = some (.str "right" t)
  i_TIE : ∃ t, mg "TIE" = some (.str "tie" t)
  i_TUG : ∃ t, mg "TUG" = some (.str "tug" t)
  c_World : Cls K (cls K 0)
  mk_World : Mk K (cls K 0) (He.ma K (He.ga K "World") "__init__")
  n_own_grips : NoAttr K (cls K 0) "own_grips"
  n_own_forces : NoAttr K (cls K 0) "own_forces"
  n_own_names : NoAttr K (cls K 0) "own_names"
  n_own_facts : NoAttr K (cls K 0) "own_facts"
  c_Lace : Cls K (cls K 1)
  mk_Lace : Mk K (cls K 1) (He.ma K (He.ga K "Lace") "__init__")
  n_own_world : NoAttr K (cls K 1) "own_world"
  n_own_eyes : NoAttr K (cls K 1) "own_eyes"
  n_own_rest : NoAttr K (cls K 1) "own_rest"
  c_State : Cls K (cls K 2)
  mk_State : Mk K (cls K 2) (He.ma K (He.ga K "State") "__init__")
  n_own_lace : NoAttr K (cls K 2) "own_lace"
  n_own_deeds : NoAttr K (cls K 2) "own_deeds"
  n_own_tied : NoAttr K (cls K 2) "own_tied"
  p_stretches : PropOf K (cls K 1) "stretches" (pAd K "Lace" "stretches") (pgAd K "Lace" "stretches")
  e_World_init : etB K (He.dflAt ("World", some "__init__") 0 K) = true
  e_State_init : etB K (He.dflAt ("State", some "__init__") 0 K) = true
  j_World : InsF K (cls K 0)
  j_Lace : InsF K (cls K 1)
  j_State : InsF K (cls K 2)
  k_Lace : kdB K (cls K) 3 (.inr 1) = true
  k_State : kdB K (cls K) 3 (.inr 2) = true
  k_World : kdB K (cls K) 3 (.inr 0) = true
  k_bool : kdB K (cls K) 3 (.inl "bool") = true
  k_dict : kdB K (cls K) 3 (.inl "dict") = true
  k_int : kdB K (cls K) 3 (.inl "int") = true
  k_list : kdB K (cls K) 3 (.inl "list") = true
  k_str : kdB K (cls K) 3 (.inl "str") = true
  k_tuple : kdB K (cls K) 3 (.inl "tuple") = true
theorem Gx.ins {K : PySem.W.Frag} {mg : Str → Option Value} (g : Gx K mg) : ∀ k, k < 3 → InsF K (cls K k)
  | 0, _ => g.j_World
  | 1, _ => g.j_Lace
  | 2, _ => g.j_State
  | n + 3, h => absurd h (by omega)
def hd : Hd where
  fa := [.glo "Lace", .glo "State", .glo "World", .glo "_law_begun", .glo "_law_mixed", .glo "_law_pick", .glo "_law_take", .glo "_law_told", .glo "are_names", .glo "are_powers", .glo "from_one", .glo "in_order", .glo "is_deed", .glo "is_fact_of", .glo "is_list", .glo "is_move", .glo "is_name", .glo "is_number", .glo "is_product_of", .glo "is_small_of", .glo "law", .glo "need_lace", .glo "need_powers", .glo "need_state", .glo "own_deed", .glo "pulls", .glo "reach_of", .glo "way_of", .glo "worth_by", .free "abs", .free "all", .free "any", .free "bool", .free "dict", .free "enumerate", .free "int", .free "isinstance", .free "len", .free "list", .free "max", .free "min", .free "range", .free "set", .free "sorted", .free "str", .free "sum", .free "tuple", .int "LONGEST_NAME" 6, .int "MOST_DEEDS" 8, .int "MOST_EXPONENT" 9, .int "MOST_EYES" 5, .int "MOST_FACTS" 9, .int "MOST_FORCES" 3, .int "MOST_GRIPS" 3, .str "LEFT" "left", .str "LET" "let", .str "LETTERS" "abcdefghijklmnopqrstuvwxyz", .str "RIGHT" "right", .str "TIE" "tie", .str "TUG" "tug", .cls "World", .mkr "World", .noat "World" "own_grips", .noat "World" "own_forces", .noat "World" "own_names", .noat "World" "own_facts", .cls "Lace", .mkr "Lace", .noat "Lace" "own_world", .noat "Lace" "own_eyes", .noat "Lace" "own_rest", .cls "State", .mkr "State", .noat "State" "own_lace", .noat "State" "own_deeds", .noat "State" "own_tied"]
  fn := [⟨fun K => (He.ga K "is_number"), "is_number", "is_number", defArgs st_is_number, defBody st_is_number, defScope st_is_number, []⟩, ⟨fun K => (He.ga K "is_list"), "is_list", "is_list", defArgs st_is_list, defBody st_is_list, defScope st_is_list, []⟩, ⟨fun K => (He.ga K "is_name"), "is_name", "is_name", defArgs st_is_name, defBody st_is_name, defScope st_is_name, []⟩, ⟨fun K => (He.ga K "are_names"), "are_names", "are_names", defArgs st_are_names, defBody st_are_names, defScope st_are_names, []⟩, ⟨fun K => (He.ga K "is_product_of"), "is_product_of", "is_product_of", defArgs st_is_product_of, defBody st_is_product_of, defScope st_is_product_of, []⟩, ⟨fun K => (He.ga K "is_small_of"), "is_small_of", "is_small_of", defArgs st_is_small_of, defBody st_is_small_of, defScope st_is_small_of, []⟩, ⟨fun K => (He.ga K "is_fact_of"), "is_fact_of", "is_fact_of", defArgs st_is_fact_of, defBody st_is_fact_of, defScope st_is_fact_of, []⟩, ⟨fun K => (He.ga K "in_order"), "in_order", "in_order", defArgs st_in_order, defBody st_in_order, defScope st_in_order, []⟩, ⟨fun K => (He.ma K (He.ga K "World") "__init__"), "__init__", "World.__init__", defArgs st_World_init, defBody st_World_init, defScope st_World_init, [.adr (He.dflAt ("World", some "__init__") 0)]⟩, ⟨fun K => (He.ga K "from_one"), "from_one", "from_one", defArgs st_from_one, defBody st_from_one, defScope st_from_one, []⟩, ⟨fun K => (He.ga K "worth_by"), "worth_by", "worth_by", defArgs st_worth_by, defBody st_worth_by, defScope st_worth_by, []⟩, ⟨fun K => (He.ga K "are_powers"), "are_powers", "are_powers", defArgs st_are_powers, defBody st_are_powers, defScope st_are_powers, []⟩, ⟨fun K => (He.ga K "need_powers"), "need_powers", "need_powers", defArgs st_need_powers, defBody st_need_powers, defScope st_need_powers, []⟩, ⟨fun K => (He.ma K (He.ga K "Lace") "__init__"), "__init__", "Lace.__init__", defArgs st_Lace_init, defBody st_Lace_init, defScope st_Lace_init, []⟩, ⟨fun K => (pgAd K "Lace" "stretches"), "stretches", "Lace.stretches", defArgs st_Lace_stretches, defBody st_Lace_stretches, defScope st_Lace_stretches, []⟩, ⟨fun K => (He.ga K "need_lace"), "need_lace", "need_lace", defArgs st_need_lace, defBody st_need_lace, defScope st_need_lace, []⟩, ⟨fun K => (He.ga K "is_move"), "is_move", "is_move", defArgs st_is_move, defBody st_is_move, defScope st_is_move, []⟩, ⟨fun K => (He.ga K "is_deed"), "is_deed", "is_deed", defArgs st_is_deed, defBody st_is_deed, defScope st_is_deed, []⟩, ⟨fun K => (He.ga K "own_deed"), "own_deed", "own_deed", defArgs st_own_deed, defBody st_own_deed, defScope st_own_deed, []⟩, ⟨fun K => (He.ga K "reach_of"), "reach_of", "reach_of", defArgs st_reach_of, defBody st_reach_of, defScope st_reach_of, []⟩, ⟨fun K => (He.ga K "way_of"), "way_of", "way_of", defArgs st_way_of, defBody st_way_of, defScope st_way_of, []⟩, ⟨fun K => (He.ma K (He.ga K "State") "__init__"), "__init__", "State.__init__", defArgs st_State_init, defBody st_State_init, defScope st_State_init, [.adr (He.dflAt ("State", some "__init__") 0)]⟩, ⟨fun K => (He.ga K "need_state"), "need_state", "need_state", defArgs st_need_state, defBody st_need_state, defScope st_need_state, []⟩, ⟨fun K => (He.ga K "pulls"), "pulls", "pulls", defArgs st_pulls, defBody st_pulls, defScope st_pulls, []⟩, ⟨fun K => (He.ga K "_law_begun"), "_law_begun", "_law_begun", defArgs st_law_begun, defBody st_law_begun, defScope st_law_begun, []⟩, ⟨fun K => (He.ga K "_law_mixed"), "_law_mixed", "_law_mixed", defArgs st_law_mixed, defBody st_law_mixed, defScope st_law_mixed, []⟩, ⟨fun K => (He.ga K "_law_take"), "_law_take", "_law_take", defArgs st_law_take, defBody st_law_take, defScope st_law_take, []⟩, ⟨fun K => (He.ga K "_law_pick"), "_law_pick", "_law_pick", defArgs st_law_pick, defBody st_law_pick, defScope st_law_pick, []⟩, ⟨fun K => (He.ga K "_law_told"), "_law_told", "_law_told", defArgs st_law_told, defBody st_law_told, defScope st_law_told, []⟩, ⟨fun K => (He.ga K "law"), "law", "law", defArgs st_law, defBody st_law, defScope st_law, []⟩]
  ex := fun K => propB K "Lace" "stretches" && (etB K (He.dflAt ("World", some "__init__") 0 K) && (etB K (He.dflAt ("State", some "__init__") 0 K) && (insB K "World" && (insB K "Lace" && (insB K "State" && (kdB K (cls K) 3 (.inr 1) && (kdB K (cls K) 3 (.inr 2) && (kdB K (cls K) 3 (.inr 0) && (kdB K (cls K) 3 (.inl "bool") && (kdB K (cls K) 3 (.inl "dict") && (kdB K (cls K) 3 (.inl "int") && (kdB K (cls K) 3 (.inl "list") && (kdB K (cls K) 3 (.inl "str") && (kdB K (cls K) 3 (.inl "tuple") && true))))))))))))))
theorem Gx.of {K : PySem.W.Frag} {h : Heap} {mg : Str → Option Value} (X : K.In h) (G : h.Ns mainGlobals mg) (c : SaysY hd K) : Gx K mg := by
  have hx := c.more
  simp only [hd, Bool.and_eq_true] at hx
  exact {
    F_is_number := funD_of (c.def_ 0)
    F_is_list := funD_of (c.def_ 1)
    F_is_name := funD_of (c.def_ 2)
    F_are_names := funD_of (c.def_ 3)
    F_is_product_of := funD_of (c.def_ 4)
    F_is_small_of := funD_of (c.def_ 5)
    F_is_fact_of := funD_of (c.def_ 6)
    F_in_order := funD_of (c.def_ 7)
    F_World_init := funD_of (c.def_ 8)
    F_from_one := funD_of (c.def_ 9)
    F_worth_by := funD_of (c.def_ 10)
    F_are_powers := funD_of (c.def_ 11)
    F_need_powers := funD_of (c.def_ 12)
    F_Lace_init := funD_of (c.def_ 13)
    F_Lace_stretches := funD_of (c.def_ 14)
    F_need_lace := funD_of (c.def_ 15)
    F_is_move := funD_of (c.def_ 16)
    F_is_deed := funD_of (c.def_ 17)
    F_own_deed := funD_of (c.def_ 18)
    F_reach_of := funD_of (c.def_ 19)
    F_way_of := funD_of (c.def_ 20)
    F_State_init := funD_of (c.def_ 21)
    F_need_state := funD_of (c.def_ 22)
    F_pulls := funD_of (c.def_ 23)
    F_law_begun := funD_of (c.def_ 24)
    F_law_mixed := funD_of (c.def_ 25)
    F_law_take := funD_of (c.def_ 26)
    F_law_pick := funD_of (c.def_ 27)
    F_law_told := funD_of (c.def_ 28)
    F_law := funD_of (c.def_ 29)
    g_Lace := He.glo_ok X G (c.fact 0)
    g_State := He.glo_ok X G (c.fact 1)
    g_World := He.glo_ok X G (c.fact 2)
    g__law_begun := He.glo_ok X G (c.fact 3)
    g__law_mixed := He.glo_ok X G (c.fact 4)
    g__law_pick := He.glo_ok X G (c.fact 5)
    g__law_take := He.glo_ok X G (c.fact 6)
    g__law_told := He.glo_ok X G (c.fact 7)
    g_are_names := He.glo_ok X G (c.fact 8)
    g_are_powers := He.glo_ok X G (c.fact 9)
    g_from_one := He.glo_ok X G (c.fact 10)
    g_in_order := He.glo_ok X G (c.fact 11)
    g_is_deed := He.glo_ok X G (c.fact 12)
    g_is_fact_of := He.glo_ok X G (c.fact 13)
    g_is_list := He.glo_ok X G (c.fact 14)
    g_is_move := He.glo_ok X G (c.fact 15)
    g_is_name := He.glo_ok X G (c.fact 16)
    g_is_number := He.glo_ok X G (c.fact 17)
    g_is_product_of := He.glo_ok X G (c.fact 18)
    g_is_small_of := He.glo_ok X G (c.fact 19)
    g_law := He.glo_ok X G (c.fact 20)
    g_need_lace := He.glo_ok X G (c.fact 21)
    g_need_powers := He.glo_ok X G (c.fact 22)
    g_need_state := He.glo_ok X G (c.fact 23)
    g_own_deed := He.glo_ok X G (c.fact 24)
    g_pulls := He.glo_ok X G (c.fact 25)
    g_reach_of := He.glo_ok X G (c.fact 26)
    g_way_of := He.glo_ok X G (c.fact 27)
    g_worth_by := He.glo_ok X G (c.fact 28)
    b_abs := He.free_ok X G (c.fact 29)
    b_all := He.free_ok X G (c.fact 30)
    b_any := He.free_ok X G (c.fact 31)
    b_bool := He.free_ok X G (c.fact 32)
    b_dict := He.free_ok X G (c.fact 33)
    b_enumerate := He.free_ok X G (c.fact 34)
    b_int := He.free_ok X G (c.fact 35)
    b_isinstance := He.free_ok X G (c.fact 36)
    b_len := He.free_ok X G (c.fact 37)
    b_list := He.free_ok X G (c.fact 38)
    b_max := He.free_ok X G (c.fact 39)
    b_min := He.free_ok X G (c.fact 40)
    b_range := He.free_ok X G (c.fact 41)
    b_set := He.free_ok X G (c.fact 42)
    b_sorted := He.free_ok X G (c.fact 43)
    b_str := He.free_ok X G (c.fact 44)
    b_sum := He.free_ok X G (c.fact 45)
    b_tuple := He.free_ok X G (c.fact 46)
    i_LONGEST_NAME := He.int_ok X G (c.fact 47)
    i_MOST_DEEDS := He.int_ok X G (c.fact 48)
    i_MOST_EXPONENT := He.int_ok X G (c.fact 49)
    i_MOST_EYES := He.int_ok X G (c.fact 50)
    i_MOST_FACTS := He.int_ok X G (c.fact 51)
    i_MOST_FORCES := He.int_ok X G (c.fact 52)
    i_MOST_GRIPS := He.int_ok X G (c.fact 53)
    i_LEFT := He.str_ok X G (c.fact 54)
    i_LET := He.str_ok X G (c.fact 55)
    i_LETTERS := He.str_ok X G (c.fact 56)
    i_RIGHT := He.str_ok X G (c.fact 57)
    i_TIE := He.str_ok X G (c.fact 58)
    i_TUG := He.str_ok X G (c.fact 59)
    c_World := He.cls_ok (c.fact 60)
    mk_World := He.mkr_ok (c.fact 61)
    n_own_grips := He.noat_ok (c.fact 62)
    n_own_forces := He.noat_ok (c.fact 63)
    n_own_names := He.noat_ok (c.fact 64)
    n_own_facts := He.noat_ok (c.fact 65)
    c_Lace := He.cls_ok (c.fact 66)
    mk_Lace := He.mkr_ok (c.fact 67)
    n_own_world := He.noat_ok (c.fact 68)
    n_own_eyes := He.noat_ok (c.fact 69)
    n_own_rest := He.noat_ok (c.fact 70)
    c_State := He.cls_ok (c.fact 71)
    mk_State := He.mkr_ok (c.fact 72)
    n_own_lace := He.noat_ok (c.fact 73)
    n_own_deeds := He.noat_ok (c.fact 74)
    n_own_tied := He.noat_ok (c.fact 75)
    p_stretches := propB_ok hx.1
    e_World_init := id hx.2.1
    e_State_init := id hx.2.2.1
    j_World := insB_ok hx.2.2.2.1
    j_Lace := insB_ok hx.2.2.2.2.1
    j_State := insB_ok hx.2.2.2.2.2.1
    k_Lace := id hx.2.2.2.2.2.2.1
    k_State := id hx.2.2.2.2.2.2.2.1
    k_World := id hx.2.2.2.2.2.2.2.2.1
    k_bool := id hx.2.2.2.2.2.2.2.2.2.1
    k_dict := id hx.2.2.2.2.2.2.2.2.2.2.1
    k_int := id hx.2.2.2.2.2.2.2.2.2.2.2.1
    k_list := id hx.2.2.2.2.2.2.2.2.2.2.2.2.1
    k_str := id hx.2.2.2.2.2.2.2.2.2.2.2.2.2.1
    k_tuple := id hx.2.2.2.2.2.2.2.2.2.2.2.2.2.2.1
  }
section
variable {P : Program} {w : World} {K : PySem.W.Frag} {mg : Str → Option Value} {base : Heap}
theorem b_is_number (g : Gx K mg) : Binds K (fdOf K (He.ga K "is_number")) P_is_number [] := g.F_is_number.bindsN fun _ _ _ _ _ _ us hl => match us, hl with | [_], _ => rfl
theorem sc_is_number : FnScope N_is_number P_is_number (defScope st_is_number) := ⟨rfl, rfl, rfl, by decide +kernel, rfl, by decide +kernel, by decide +kernel⟩
theorem ok_is_number (g : Gx K mg) : FnOk P w K mg base (L2.CX P w) 1 (He.ga K "is_number") (fdOf K (He.ga K "is_number")) P_is_number (spOf K (cls K) (xcl K) 1 m_is_number) := by
  have sc := sc_is_number
  delta m_is_number
  delta s_is_number
  delta s_is_number_0
  exact def_fin g.F_is_number sc fun cdv A outer s H E reg hr => (pss_oneD (ps_retD (pd_and (pd_isiT rfl g.ins PyProof.Rows.boot_int g.k_int rfl g.b_isinstance rfl g.b_int (pv rfl rfl)) (pd_one (pd_not (pd_isiT rfl g.ins PyProof.Rows.boot_bool g.k_bool rfl g.b_isinstance rfl g.b_bool (pv rfl rfl)))))))
theorem b_is_list (g : Gx K mg) : Binds K (fdOf K (He.ga K "is_list")) P_is_list [] := g.F_is_list.bindsN fun _ _ _ _ _ _ us hl => match us, hl with | [_], _ => rfl
theorem sc_is_list : FnScope N_is_list P_is_list (defScope st_is_list) := ⟨rfl, rfl, rfl, by decide +kernel, rfl, by decide +kernel, by decide +kernel⟩
theorem ok_is_list (g : Gx K mg) : FnOk P w K mg base (L2.CX P w) 1 (He.ga K "is_list") (fdOf K (He.ga K "is_list")) P_is_list (spOf K (cls K) (xcl K) 1 m_is_list) := by
  have sc := sc_is_list
  delta m_is_list
  delta s_is_list
  delta s_is_list_0
  exact def_fin g.F_is_list sc fun cdv A outer s H E reg hr => (pss_oneD (ps_retD (pd_isi2 rfl g.ins PyProof.Rows.boot_list PyProof.Rows.boot_tuple g.k_list g.k_tuple rfl g.b_isinstance rfl g.b_list rfl g.b_tuple (pv rfl rfl))))
theorem b_is_name (g : Gx K mg) : Binds K (fdOf K (He.ga K "is_name")) P_is_name [] := g.F_is_name.bindsN fun _ _ _ _ _ _ us hl => match us, hl with | [_], _ => rfl
theorem sc_is_name : FnScope N_is_name P_is_name (defScope st_is_name) := ⟨rfl, rfl, rfl, by decide +kernel, rfl, by decide +kernel, by decide +kernel⟩
theorem ok_is_name (g : Gx K mg) : FnOk P w K mg base (L2.CX P w) 1 (He.ga K "is_name") (fdOf K (He.ga K "is_name")) P_is_name (spOf K (cls K) (xcl K) 1 m_is_name) := by
  have sc := sc_is_name
  delta m_is_name
  delta s_is_name
  delta t_is_name_0
  delta s_is_name_1
  delta s_is_name_0
  exact def_fin g.F_is_name sc fun cdv A outer s H E reg hr => (pss_consD (ps_ifD (pt_ofW (pw_orD (pt_notD (pt_valD (pd_isiT rfl g.ins PyProof.Rows.boot_str g.k_str rfl g.b_isinstance rfl g.b_str (pv rfl rfl)))) (pw_or1D (pt_notD (pt_chainD os_cmp os_cmp op_le op_le pd_int (pd_callB cs_len (call_lenA) rfl g.b_len boot_len (pa_consD (pv rfl rfl) pa_nilD)) (pd_gI rfl g.i_LONGEST_NAME)))))) (pss_oneD (ps_retD pd_bl)) pss_nilD) (pss_oneD (ps_retD (pd_callB cs_all (cr_all rfl) rfl g.b_all PyProof.Rows.boot_all (pa_consD (pd_lc (own := [("sign", 1)]) rfl sc.nd (pi_anyD rfl (pv rfl rfl)) (kgc_name (by decide)) (blkOk_by (by kernel_rfl)) (fun s H A cl fp => (pg_n sc.nd rfl rfl)) (fun s H A cl fp => pts_nilD) (fun s H A cl fp => (pd_in rfl hr.units (pv rfl rfl) (pd_gS rfl g.i_LETTERS)))) pa_nilD)))))
theorem b_are_names (g : Gx K mg) : Binds K (fdOf K (He.ga K "are_names")) P_are_names [] := g.F_are_names.bindsN fun _ _ _ _ _ _ us hl => match us, hl with | [_, _], _ => rfl
theorem sc_are_names : FnScope N_are_names P_are_names (defScope st_are_names) := ⟨rfl, rfl, rfl, by decide +kernel, rfl, by decide +kernel, by decide +kernel⟩
theorem ok_are_names (g : Gx K mg) : FnOk P w K mg base (L2.CX P w) 2 (He.ga K "are_names") (fdOf K (He.ga K "are_names")) P_are_names (spOf K (cls K) (xcl K) 2 m_are_names) := by
  have sc := sc_are_names
  delta m_are_names
  delta s_are_names
  delta t_are_names_0
  delta s_are_names_1
  delta s_are_names_0
  exact def_fin g.F_are_names sc fun cdv A outer s H E reg hr => (pss_consD (ps_ifD (pt_ofW (pw_orD (pt_notD (pt_valD (pd_call (dts := []) rfl (ok_is_list g) (hr.mono (by decide)) rfl g.g_is_list g.F_is_list.kp (b_is_list g) .nil (fun _ _ => rts_nil) (passes_call (takes_of rfl rfl rfl rfl) (fun _ _ _ _ h => h)) (pa_consD (pv rfl rfl) pa_nilD)))) (pw_orD (pt_notD (pt_chainD os_cmp os_cmp op_le op_le pd_int (pd_callB cs_len (call_lenA) rfl g.b_len boot_len (pa_consD (pv rfl rfl) pa_nilD)) (pv rfl rfl))) (pw_or1D (pt_notD (pt_valD (pd_callB cs_all (cr_all rfl) rfl g.b_all PyProof.Rows.boot_all (pa_consD (pd_lc (own := [("item", 2)]) rfl sc.nd (pi_anyD rfl (pv rfl rfl)) (kgc_name (by decide)) (blkOk_by (by kernel_rfl)) (fun s H A cl fp => (pg_n sc.nd rfl rfl)) (fun s H A cl fp => pts_nilD) (fun s H A cl fp => (pd_call (dts := []) rfl (ok_is_name g) (hr.mono (by decide)) rfl g.g_is_name g.F_is_name.kp (b_is_name g) .nil (fun _ _ => rts_nil) passL (pa_consD (pv rfl rfl) pa_nilD)))) pa_nilD)))))))) (pss_oneD (ps_retD pd_bl)) pss_nilD) (pss_oneD (ps_retD (pd_eq rfl hr.units (pd_lenSet rfl rfl rfl g.b_len rfl g.b_set (pd_callTy cs_list (call_listA rfl) rfl g.b_list PyProof.Rows.boot_list (pa_consD (pv rfl rfl) pa_nilD))) (pd_callB cs_len (call_lenA) rfl g.b_len boot_len (pa_consD (pv rfl rfl) pa_nilD))))))
theorem b_is_product_of (g : Gx K mg) : Binds K (fdOf K (He.ga K "is_product_of")) P_is_product_of [] := g.F_is_product_of.bindsN fun _ _ _ _ _ _ us hl => match us, hl with | [_, _], _ => rfl
theorem sc_is_product_of : FnScope N_is_product_of P_is_product_of (defScope st_is_product_of) := ⟨rfl, rfl, rfl, by decide +kernel, rfl, by decide +kernel, by decide +kernel⟩
theorem ok_is_product_of (g : Gx K mg) : FnOk P w K mg base (L2.CX P w) 2 (He.ga K "is_product_of") (fdOf K (He.ga K "is_product_of")) P_is_product_of (spOf K (cls K) (xcl K) 2 m_is_product_of) := by
  have sc := sc_is_product_of
  delta m_is_product_of
  delta s_is_product_of
  delta t_is_product_of_0
  delta s_is_product_of_1
  delta s_is_product_of_0
  exact def_fin g.F_is_product_of sc fun cdv A outer s H E reg hr => (pss_consD (ps_ifD (pt_ofW (pw_orD (pt_notD (pt_valD (pd_isiT rfl g.ins PyProof.Rows.boot_dict g.k_dict rfl g.b_isinstance rfl g.b_dict (pv rfl rfl)))) (pw_or1D (pt_notD (pt_valD (pd_callB cs_all (cr_all rfl) rfl g.b_all PyProof.Rows.boot_all (pa_consD (pd_lcK (own := [("name", 2)]) (j := 1) rfl sc.nd rfl (vis_by rfl) (kgc_name (by decide)) (blkOk_by (by kernel_rfl)) (fun s H A cl fp => (pg_n sc.nd rfl rfl)) (fun s H A cl fp => pts_nilD) (fun s H A cl fp => (pd_and (pd_isiT rfl g.ins PyProof.Rows.boot_str g.k_str rfl g.b_isinstance rfl g.b_str (pv rfl rfl)) (pd_one (pd_in rfl hr.units (pv rfl rfl) (pv rfl rfl)))))) pa_nilD))))))) (pss_oneD (ps_retD pd_bl)) pss_nilD) (pss_oneD (ps_retD (pd_callB cs_all (cr_all rfl) rfl g.b_all PyProof.Rows.boot_all (pa_consD (pd_lcK (own := [("name", 2)]) (j := 1) rfl sc.nd rfl (vis_by rfl) (kgc_name (by decide)) (blkOk_by (by kernel_rfl)) (fun s H A cl fp => (pg_n sc.nd rfl rfl)) (fun s H A cl fp => pts_nilD) (fun s H A cl fp => (pd_and (pd_call (dts := []) rfl (ok_is_number g) (hr.mono (by decide)) rfl g.g_is_number g.F_is_number.kp (b_is_number g) .nil (fun _ _ => rts_nil) passL (pa_consD (pd_ix rfl hr.units (pv rfl rfl) (pv rfl rfl)) pa_nilD)) (pd_one (pd_ne rfl hr.units (pd_ix rfl hr.units (pv rfl rfl) (pv rfl rfl)) pd_int))))) pa_nilD)))))
theorem b_is_small_of (g : Gx K mg) : Binds K (fdOf K (He.ga K "is_small_of")) P_is_small_of [] := g.F_is_small_of.bindsN fun _ _ _ _ _ _ us hl => match us, hl with | [_, _], _ => rfl
theorem sc_is_small_of : FnScope N_is_small_of P_is_small_of (defScope st_is_small_of) := ⟨rfl, rfl, rfl, by decide +kernel, rfl, by decide +kernel, by decide +kernel⟩
theorem ok_is_small_of (g : Gx K mg) : FnOk P w K mg base (L2.CX P w) 3 (He.ga K "is_small_of") (fdOf K (He.ga K "is_small_of")) P_is_small_of (spOf K (cls K) (xcl K) 2 m_is_small_of) := by
  have sc := sc_is_small_of
  delta m_is_small_of
  delta s_is_small_of
  delta t_is_small_of_0
  delta s_is_small_of_1
  delta s_is_small_of_0
  exact def_fin g.F_is_small_of sc fun cdv A outer s H E reg hr => (pss_consD (ps_ifD (pt_notD (pt_valD (pd_call (dts := []) rfl (ok_is_product_of g) (hr.mono (by decide)) rfl g.g_is_product_of g.F_is_product_of.kp (b_is_product_of g) .nil (fun _ _ => rts_nil) (passes_call (takes_of rfl rfl rfl rfl) (fun _ _ _ _ h => h)) (pa_consD (pv rfl rfl) (pa_consD (pv rfl rfl) pa_nilD))))) (pss_oneD (ps_retD pd_bl)) pss_nilD) (pss_oneD (ps_retD (pd_callB cs_all (cr_all rfl) rfl g.b_all PyProof.Rows.boot_all (pa_consD (pd_lcK (own := [("name", 2)]) (j := 1) rfl sc.nd rfl (vis_by rfl) (kgc_name (by decide)) (blkOk_by (by kernel_rfl)) (fun s H A cl fp => (pg_n sc.nd rfl rfl)) (fun s H A cl fp => pts_nilD) (fun s H A cl fp => (pd_chain os_cmp os_cmp op_le op_le (pd_neg (pd_gI rfl g.i_MOST_EXPONENT)) (pd_ix rfl hr.units (pv rfl rfl) (pv rfl rfl)) (pd_gI rfl g.i_MOST_EXPONENT)))) pa_nilD)))))
theorem b_is_fact_of (g : Gx K mg) : Binds K (fdOf K (He.ga K "is_fact_of")) P_is_fact_of [] := g.F_is_fact_of.bindsN fun _ _ _ _ _ _ us hl => match us, hl with | [_, _], _ => rfl
theorem sc_is_fact_of : FnScope N_is_fact_of P_is_fact_of (defScope st_is_fact_of) := ⟨rfl, rfl, rfl, by decide +kernel, rfl, by decide +kernel, by decide +kernel⟩
theorem ok_is_fact_of (g : Gx K mg) : FnOk P w K mg base (L2.CX P w) 4 (He.ga K "is_fact_of") (fdOf K (He.ga K "is_fact_of")) P_is_fact_of (spOf K (cls K) (xcl K) 2 m_is_fact_of) := by
  have sc := sc_is_fact_of
  delta m_is_fact_of
  delta s_is_fact_of
  delta t_is_fact_of_0
  delta s_is_fact_of_1
  delta s_is_fact_of_0
  exact def_fin g.F_is_fact_of sc fun cdv A outer s H E reg hr => (pss_consD (ps_ifD (pt_ofW (pw_orD (pt_notD (pt_valD (pd_isiT rfl g.ins PyProof.Rows.boot_tuple g.k_tuple rfl g.b_isinstance rfl g.b_tuple (pv rfl rfl)))) (pw_or1D (pt_ne rfl hr.units (pd_callB cs_len (call_lenA) rfl g.b_len boot_len (pa_consD (pv rfl rfl) pa_nilD)) pd_int)))) (pss_oneD (ps_retD pd_bl)) pss_nilD) (pss_oneD (ps_retD (pd_and (pd_call (dts := []) rfl (ok_is_small_of g) (hr.mono (by decide)) rfl g.g_is_small_of g.F_is_small_of.kp (b_is_small_of g) .nil (fun _ _ => rts_nil) (passes_call (takes_of rfl rfl rfl rfl) (fun _ _ _ _ h => h)) (pa_consD (pv rfl rfl) (pa_consD (pd_ix rfl hr.units (pv rfl rfl) pd_int) pa_nilD))) (pd_one (pd_call (dts := []) rfl (ok_is_small_of g) (hr.mono (by decide)) rfl g.g_is_small_of g.F_is_small_of.kp (b_is_small_of g) .nil (fun _ _ => rts_nil) (passes_call (takes_of rfl rfl rfl rfl) (fun _ _ _ _ h => h)) (pa_consD (pv rfl rfl) (pa_consD (pd_ix rfl hr.units (pv rfl rfl) pd_int) pa_nilD))))))))
theorem b_in_order (g : Gx K mg) : Binds K (fdOf K (He.ga K "in_order")) P_in_order [] := g.F_in_order.bindsN fun _ _ _ _ _ _ us hl => match us, hl with | [_], _ => rfl
theorem sc_in_order : FnScope N_in_order P_in_order (defScope st_in_order) := ⟨rfl, rfl, rfl, by decide +kernel, rfl, by decide +kernel, by decide +kernel⟩
theorem ok_in_order (g : Gx K mg) : FnOk P w K mg base (L2.CX P w) 1 (He.ga K "in_order") (fdOf K (He.ga K "in_order")) P_in_order (spOf K (cls K) (xcl K) 1 m_in_order) := by
  have sc := sc_in_order
  delta m_in_order
  delta s_in_order
  delta s_in_order_0
  exact def_fin g.F_in_order sc fun cdv A outer s H E reg hr => (pss_oneD (ps_retD (pd_dc (own := [("name", 1)]) rfl sc.nd (pi_anyD rfl (pd_callB cs_sorted (call_sortedA rfl) rfl g.b_sorted PyProof.Rows.boot_sorted (pa_consD (pv rfl rfl) pa_nilD))) (kgc_name (by decide)) (blkOk_by (by kernel_rfl)) (fun s H A cl fp => (pg_n sc.nd rfl rfl)) (fun s H A cl fp => pts_nilD) (fun s H A cl fp => (pv rfl rfl)) (fun s H A cl fp => (pd_ix rfl hr.units (pv rfl rfl) (pv rfl rfl))))))
theorem b0_World_init (g : Gx K mg) : ∃ ds, Vals (([.ref (He.dflAt ("World", some "__init__") 0 K)] : List V).drop 1) ds ∧ Binds K (fdOf K (He.ma K (He.ga K "World") "__init__")) P_World_init ds := g.F_World_init.binds1 4 1 (by simp) rfl fun _ _ _ _ _ _ _ us its h1 h2 => match us, h1, its, h2 with | [_, _, _, _], _, [_], _ => ⟨_, rfl, rfl⟩
theorem b1_World_init (g : Gx K mg) : ∃ ds, Vals (([.ref (He.dflAt ("World", some "__init__") 0 K)] : List V).drop 0) ds ∧ Binds K (fdOf K (He.ma K (He.ga K "World") "__init__")) P_World_init ds := g.F_World_init.binds1 3 0 (by simp) rfl fun _ _ _ _ _ _ _ us its h1 h2 => match us, h1, its, h2 with | [_, _, _], _, [_], _ => ⟨_, rfl, rfl⟩
theorem sc_World_init : FnScope N_World_init P_World_init (defScope st_World_init) := ⟨rfl, rfl, rfl, by decide +kernel, rfl, by decide +kernel, by decide +kernel⟩
theorem ok_World_init (g : Gx K mg) : FnOk P w K mg base (L2.CX P w) 5 (He.ma K (He.ga K "World") "__init__") (fdOf K (He.ma K (He.ga K "World") "__init__")) P_World_init (spOf K (cls K) (xcl K) 4 m_World_init) := by
  have sc := sc_World_init
  delta m_World_init
  delta s_World_init
  delta t_World_init_0
  delta t_World_init_1
  delta t_World_init_2
  delta t_World_init_3
  delta t_World_init_4
  delta t_World_init_5
  delta t_World_init_6
  delta s_World_init_7
  delta s_World_init_6
  delta s_World_init_5
  delta s_World_init_4
  delta s_World_init_3
  delta s_World_init_2
  delta s_World_init_1
  delta s_World_init_0
  exact def_fin g.F_World_init sc fun cdv A outer s H E reg hr => (pss_consD (ps_ifD (pt_notD (pt_valD (pd_call (dts := []) rfl (ok_are_names g) (hr.mono (by decide)) rfl g.g_are_names g.F_are_names.kp (b_are_names g) .nil (fun _ _ => rts_nil) (passes_call (takes_of rfl rfl rfl rfl) (fun _ _ _ _ h => h)) (pa_consD (pv rfl rfl) (pa_consD (pd_gI rfl g.i_MOST_GRIPS) pa_nilD))))) (pss_oneD ps_neverD) pss_nilD) (pss_consD (ps_ifD (pt_ofW (pw_orD (pt_notD (pt_valD (pd_call (dts := []) rfl (ok_are_names g) (hr.mono (by decide)) rfl g.g_are_names g.F_are_names.kp (b_are_names g) .nil (fun _ _ => rts_nil) (passes_call (takes_of rfl rfl rfl rfl) (fun _ _ _ _ h => h)) (pa_consD (pv rfl rfl) (pa_consD (pd_gI rfl g.i_MOST_FORCES) pa_nilD))))) (pw_or1D (pt_valD (pd_callB cs_any (cr_any rfl) rfl g.b_any PyProof.Rows.boot_any (pa_consD (pd_lc (own := [("name", 4)]) rfl sc.nd (pi_anyD rfl (pv rfl rfl)) (kgc_name (by decide)) (blkOk_by (by kernel_rfl)) (fun s H A cl fp => (pg_n sc.nd rfl rfl)) (fun s H A cl fp => pts_nilD) (fun s H A cl fp => (pd_in rfl hr.units (pv rfl rfl) (pv rfl rfl)))) pa_nilD)))))) (pss_oneD ps_neverD) pss_nilD) (pss_consD (ps_setD sc.nd rfl (loc_by rfl) (pd_callB cs_sorted (call_sortedA rfl) rfl g.b_sorted PyProof.Rows.boot_sorted (pa_consD (pd_lst (pa_starD rfl (pv rfl rfl) (pa_starD rfl (pv rfl rfl) pa_nilD))) pa_nilD))) (pss_consD (ps_ifD (pt_ofW (pw_orD (pt_notD (pt_valD (pd_call (dts := []) rfl (ok_is_list g) (hr.mono (by decide)) rfl g.g_is_list g.F_is_list.kp (b_is_list g) .nil (fun _ _ => rts_nil) (passes_call (takes_of rfl rfl rfl rfl) (fun _ _ _ _ h => h)) (pa_consD (pv rfl rfl) pa_nilD)))) (pw_orD (pt_gt (pd_callB cs_len (call_lenA) rfl g.b_len boot_len (pa_consD (pv rfl rfl) pa_nilD)) (pd_gI rfl g.i_MOST_FACTS)) (pw_or1D (pt_notD (pt_valD (pd_callB cs_all (cr_all rfl) rfl g.b_all PyProof.Rows.boot_all (pa_consD (pd_lc (own := [("fact", 6)]) rfl sc.nd (pi_anyD rfl (pv rfl rfl)) (kgc_name (by decide)) (blkOk_by (by kernel_rfl)) (fun s H A cl fp => (pg_n sc.nd rfl rfl)) (fun s H A cl fp => pts_nilD) (fun s H A cl fp => (pd_call (dts := []) rfl (ok_is_fact_of g) (hr.mono (by decide)) rfl g.g_is_fact_of g.F_is_fact_of.kp (b_is_fact_of g) .nil (fun _ _ => rts_nil) passL (pa_consD (pv rfl rfl) (pa_consD (pv rfl rfl) pa_nilD))))) pa_nilD)))))))) (pss_oneD ps_neverD) pss_nilD) (pss_consD (ps_fldD rfl (c := 0) g.c_World g.n_own_grips (pv rfl rfl) (pd_callTy cs_tuple call_tuple_of rfl g.b_tuple PyProof.Rows.boot_tuple (pa_consD (pd_callB cs_sorted (call_sortedA rfl) rfl g.b_sorted PyProof.Rows.boot_sorted (pa_consD (pv rfl rfl) pa_nilD)) pa_nilD))) (pss_consD (ps_fldD rfl (c := 0) g.c_World g.n_own_forces (pv rfl rfl) (pd_callTy cs_tuple call_tuple_of rfl g.b_tuple PyProof.Rows.boot_tuple (pa_consD (pd_callB cs_sorted (call_sortedA rfl) rfl g.b_sorted PyProof.Rows.boot_sorted (pa_consD (pv rfl rfl) pa_nilD)) pa_nilD))) (pss_consD (ps_fldD rfl (c := 0) g.c_World g.n_own_names (pv rfl rfl) (pd_callTy cs_tuple call_tuple_of rfl g.b_tuple PyProof.Rows.boot_tuple (pa_consD (pv rfl rfl) pa_nilD))) (pss_oneD (ps_fldD rfl (c := 0) g.c_World g.n_own_facts (pv rfl rfl) (pd_lc (own := [("low", 7), ("high", 8)]) rfl sc.nd (pi_anyD rfl (pv rfl rfl)) (kgc_tup (by decide)) (blkOk_by (by kernel_rfl)) (fun s H A cl fp => (pg_tup rfl (pgs_cons (pg_n sc.nd rfl rfl) (pgs_cons (pg_n sc.nd rfl rfl) pgs_nil)))) (fun s H A cl fp => pts_nilD) (fun s H A cl fp => (pd_tup (pa_consD (pd_call (dts := []) rfl (ok_in_order g) (hr.mono (by decide)) rfl g.g_in_order g.F_in_order.kp (b_in_order g) .nil (fun _ _ => rts_nil) passL (pa_consD (pv rfl rfl) pa_nilD)) (pa_consD (pd_call (dts := []) rfl (ok_in_order g) (hr.mono (by decide)) rfl g.g_in_order g.F_in_order.kp (b_in_order g) .nil (fun _ _ => rts_nil) passL (pa_consD (pv rfl rfl) pa_nilD)) pa_nilD))))))))))))))
theorem b_from_one (g : Gx K mg) : Binds K (fdOf K (He.ga K "from_one")) P_from_one [] := g.F_from_one.bindsN fun _ _ _ _ _ _ us hl => match us, hl with | [_], _ => rfl
theorem sc_from_one : FnScope N_from_one P_from_one (defScope st_from_one) := ⟨rfl, rfl, rfl, by decide +kernel, rfl, by decide +kernel, by decide +kernel⟩
theorem ok_from_one (g : Gx K mg) : FnOk P w K mg base (L2.CX P w) 1 (He.ga K "from_one") (fdOf K (He.ga K "from_one")) P_from_one (spOf K (cls K) (xcl K) 1 m_from_one) := by
  have sc := sc_from_one
  delta m_from_one
  delta s_from_one
  delta s_from_one_0
  exact def_fin g.F_from_one sc fun cdv A outer s H E reg hr => (pss_oneD (ps_retD (pd_lst (pa_starD rfl (pd_lc (own := [("name", 1)]) rfl sc.nd (pi_anyD rfl (pd_fld rfl (k := 0) g.c_World g.n_own_grips (pv rfl rfl))) (kgc_name (by decide)) (blkOk_by (by kernel_rfl)) (fun s H A cl fp => (pg_n sc.nd rfl rfl)) (fun s H A cl fp => pts_nilD) (fun s H A cl fp => (pd_dict (fs := [((eVar 1), (eC (.int 1)))]) (pps_cons (pv rfl rfl) pd_int pps_nil)))) (pa_starD rfl (pd_lc (own := [("low", 2), ("high", 3)]) rfl sc.nd (pi_anyD rfl (pd_fld rfl (k := 0) g.c_World g.n_own_facts (pv rfl rfl))) (kgc_tup (by decide)) (blkOk_by (by kernel_rfl)) (fun s H A cl fp => (pg_tup rfl (pgs_cons (pg_n sc.nd rfl rfl) (pgs_cons (pg_n sc.nd rfl rfl) pgs_nil)))) (fun s H A cl fp => pts_nilD) (fun s H A cl fp => pd_never)) pa_nilD)))))
theorem b_worth_by (g : Gx K mg) : Binds K (fdOf K (He.ga K "worth_by")) P_worth_by [] := g.F_worth_by.bindsN fun _ _ _ _ _ _ us hl => match us, hl with | [_, _], _ => rfl
theorem sc_worth_by : FnScope N_worth_by P_worth_by (defScope st_worth_by) := ⟨rfl, rfl, rfl, by decide +kernel, rfl, by decide +kernel, by decide +kernel⟩
theorem ok_worth_by (g : Gx K mg) : FnOk P w K mg base (L2.CX P w) 1 (He.ga K "worth_by") (fdOf K (He.ga K "worth_by")) P_worth_by (spOf K (cls K) (xcl K) 2 m_worth_by) := by
  have sc := sc_worth_by
  delta m_worth_by
  delta s_worth_by
  delta s_worth_by_0
  exact def_fin g.F_worth_by sc fun cdv A outer s H E reg hr => (pss_oneD (ps_retD (pd_callB cs_sum (cr_sum rfl) rfl g.b_sum PyProof.Rows.boot_sum (pa_consD (pd_lcK (own := [("name", 2)]) (j := 0) rfl sc.nd rfl (vis_by rfl) (kgc_name (by decide)) (blkOk_by (by kernel_rfl)) (fun s H A cl fp => (pg_n sc.nd rfl rfl)) (fun s H A cl fp => pts_nilD) (fun s H A cl fp => (pd_mul (pd_ix rfl hr.units (pv rfl rfl) (pv rfl rfl)) (pd_ix rfl hr.units (pv rfl rfl) (pv rfl rfl))))) pa_nilD))))
theorem b_are_powers (g : Gx K mg) : Binds K (fdOf K (He.ga K "are_powers")) P_are_powers [] := g.F_are_powers.bindsN fun _ _ _ _ _ _ us hl => match us, hl with | [_, _], _ => rfl
theorem sc_are_powers : FnScope N_are_powers P_are_powers (defScope st_are_powers) := ⟨rfl, rfl, rfl, by decide +kernel, rfl, by decide +kernel, by decide +kernel⟩
theorem ok_are_powers (g : Gx K mg) : FnOk P w K mg base (L2.CX P w) 2 (He.ga K "are_powers") (fdOf K (He.ga K "are_powers")) P_are_powers (spOf K (cls K) (xcl K) 2 m_are_powers) := by
  have sc := sc_are_powers
  delta m_are_powers
  delta s_are_powers
  delta t_are_powers_0
  delta t_are_powers_1
  delta s_are_powers_2
  delta s_are_powers_1
  delta s_are_powers_0
  exact def_fin g.F_are_powers sc fun cdv A outer s H E reg hr => (pss_consD (ps_ifD (pt_ofW (pw_orD (pt_notD (pt_valD (pd_isiT rfl g.ins PyProof.Rows.boot_dict g.k_dict rfl g.b_isinstance rfl g.b_dict (pv rfl rfl)))) (pw_or1D (pt_ne rfl hr.units (pd_callB cs_len (call_lenA) rfl g.b_len boot_len (pa_consD (pv rfl rfl) pa_nilD)) (pd_callB cs_len (call_lenA) rfl g.b_len boot_len (pa_consD (pd_fld rfl (k := 0) g.c_World g.n_own_names (pv rfl rfl)) pa_nilD)))))) (pss_oneD (ps_retD pd_bl)) pss_nilD) (pss_consD (ps_ifD (pt_notD (pt_valD (pd_callB cs_all (cr_all rfl) rfl g.b_all PyProof.Rows.boot_all (pa_consD (pd_lc (own := [("name", 2)]) rfl sc.nd (pi_anyD rfl (pd_fld rfl (k := 0) g.c_World g.n_own_names (pv rfl rfl))) (kgc_name (by decide)) (blkOk_by (by kernel_rfl)) (fun s H A cl fp => (pg_n sc.nd rfl rfl)) (fun s H A cl fp => pts_nilD) (fun s H A cl fp => (pd_and (pd_in rfl hr.units (pv rfl rfl) (pv rfl rfl)) (pd_one (pd_call (dts := []) rfl (ok_is_number g) (hr.mono (by decide)) rfl g.g_is_number g.F_is_number.kp (b_is_number g) .nil (fun _ _ => rts_nil) passL (pa_consD (pd_ix rfl hr.units (pv rfl rfl) (pv rfl rfl)) pa_nilD)))))) pa_nilD)))) (pss_oneD (ps_retD pd_bl)) pss_nilD) (pss_oneD (ps_retD (pd_callB cs_all (cr_all rfl) rfl g.b_all PyProof.Rows.boot_all (pa_consD (pd_lc (own := [("product", 3)]) rfl sc.nd (pi_anyD rfl (pd_call (dts := []) rfl (ok_from_one g) (hr.mono (by decide)) rfl g.g_from_one g.F_from_one.kp (b_from_one g) .nil (fun _ _ => rts_nil) (passes_call (takes_of rfl rfl rfl rfl) (fun _ _ _ _ h => h)) (pa_consD (pv rfl rfl) pa_nilD))) (kgc_name (by decide)) (blkOk_by (by kernel_rfl)) (fun s H A cl fp => (pg_n sc.nd rfl rfl)) (fun s H A cl fp => pts_nilD) (fun s H A cl fp => (pd_ge (pd_call (dts := []) rfl (ok_worth_by g) (hr.mono (by decide)) rfl g.g_worth_by g.F_worth_by.kp (b_worth_by g) .nil (fun _ _ => rts_nil) passL (pa_consD (pv rfl rfl) (pa_consD (pv rfl rfl) pa_nilD))) pd_int))) pa_nilD))))))
theorem b_need_powers (g : Gx K mg) : Binds K (fdOf K (He.ga K "need_powers")) P_need_powers [] := g.F_need_powers.bindsN fun _ _ _ _ _ _ us hl => match us, hl with | [_, _], _ => rfl
theorem sc_need_powers : FnScope N_need_powers P_need_powers (defScope st_need_powers) := ⟨rfl, rfl, rfl, by decide +kernel, rfl, by decide +kernel, by decide +kernel⟩
theorem ok_need_powers (g : Gx K mg) : FnOk P w K mg base (L2.CX P w) 3 (He.ga K "need_powers") (fdOf K (He.ga K "need_powers")) P_need_powers (spOf K (cls K) (xcl K) 2 m_need_powers) := by
  have sc := sc_need_powers
  delta m_need_powers
  delta s_need_powers
  delta s_need_powers_0
  exact def_fin g.F_need_powers sc fun cdv A outer s H E reg hr => (pss_oneD (ps_ifD (pt_notD (pt_valD (pd_call (dts := []) rfl (ok_are_powers g) (hr.mono (by decide)) rfl g.g_are_powers g.F_are_powers.kp (b_are_powers g) .nil (fun _ _ => rts_nil) (passes_call (takes_of rfl rfl rfl rfl) (fun _ _ _ _ h => h)) (pa_consD (pv rfl rfl) (pa_consD (pv rfl rfl) pa_nilD))))) (pss_oneD ps_neverD) pss_nilD))
theorem b_Lace_init (g : Gx K mg) : Binds K (fdOf K (He.ma K (He.ga K "Lace") "__init__")) P_Lace_init [] := g.F_Lace_init.bindsN fun _ _ _ _ _ _ us hl => match us, hl with | [_, _, _, _], _ => rfl
theorem sc_Lace_init : FnScope N_Lace_init P_Lace_init (defScope st_Lace_init) := ⟨rfl, rfl, rfl, by decide +kernel, rfl, by decide +kernel, by decide +kernel⟩
theorem ok_Lace_init (g : Gx K mg) : FnOk P w K mg base (L2.CX P w) 4 (He.ma K (He.ga K "Lace") "__init__") (fdOf K (He.ma K (He.ga K "Lace") "__init__")) P_Lace_init (spOf K (cls K) (xcl K) 4 m_Lace_init) := by
  have sc := sc_Lace_init
  delta m_Lace_init
  delta s_Lace_init
  delta t_Lace_init_0
  delta t_Lace_init_1
  delta t_Lace_init_2
  delta t_Lace_init_3
  delta t_Lace_init_4
  delta t_Lace_init_5
  delta s_Lace_init_6
  delta s_Lace_init_5
  delta s_Lace_init_4
  delta s_Lace_init_3
  delta s_Lace_init_2
  delta s_Lace_init_1
  delta s_Lace_init_0
  exact def_fin g.F_Lace_init sc fun cdv A outer s H E reg hr => (pss_consD (ps_ifD (pt_notD (pt_valD (pd_isiO rfl (j := 0) g.ins g.g_World g.k_World rfl g.b_isinstance rfl (pv rfl rfl)))) (pss_oneD ps_neverD) pss_nilD) (pss_consD (ps_ifD (pt_ofW (pw_orD (pt_notD (pt_valD (pd_call (dts := []) rfl (ok_is_list g) (hr.mono (by decide)) rfl g.g_is_list g.F_is_list.kp (b_is_list g) .nil (fun _ _ => rts_nil) (passes_call (takes_of rfl rfl rfl rfl) (fun _ _ _ _ h => h)) (pa_consD (pv rfl rfl) pa_nilD)))) (pw_or1D (pt_notD (pt_chainD os_cmp os_cmp op_le op_le pd_int (pd_callB cs_len (call_lenA) rfl g.b_len boot_len (pa_consD (pv rfl rfl) pa_nilD)) (pd_gI rfl g.i_MOST_EYES)))))) (pss_oneD ps_neverD) pss_nilD) (pss_consD (ps_ifD (pt_notD (pt_valD (pd_callB cs_all (cr_all rfl) rfl g.b_all PyProof.Rows.boot_all (pa_consD (pd_lc (own := [("eye", 4)]) rfl sc.nd (pi_anyD rfl (pv rfl rfl)) (kgc_name (by decide)) (blkOk_by (by kernel_rfl)) (fun s H A cl fp => (pg_n sc.nd rfl rfl)) (fun s H A cl fp => pts_nilD) (fun s H A cl fp => (pd_and (pd_isiT rfl g.ins PyProof.Rows.boot_str g.k_str rfl g.b_isinstance rfl g.b_str (pv rfl rfl)) (pd_one (pd_in rfl hr.units (pv rfl rfl) (pd_fld rfl (k := 0) g.c_World g.n_own_grips (pv rfl rfl))))))) pa_nilD)))) (pss_oneD ps_neverD) pss_nilD) (pss_consD (ps_ifD (pt_notD (pt_valD (pd_call (dts := []) rfl (ok_is_small_of g) (hr.mono (by decide)) rfl g.g_is_small_of g.F_is_small_of.kp (b_is_small_of g) .nil (fun _ _ => rts_nil) (passes_call (takes_of rfl rfl rfl rfl) (fun _ _ _ _ h => h)) (pa_consD (pd_fld rfl (k := 0) g.c_World g.n_own_names (pv rfl rfl)) (pa_consD (pv rfl rfl) pa_nilD))))) (pss_oneD ps_neverD) pss_nilD) (pss_consD (ps_fldD rfl (c := 1) g.c_Lace g.n_own_world (pv rfl rfl) (pv rfl rfl)) (pss_consD (ps_fldD rfl (c := 1) g.c_Lace g.n_own_eyes (pv rfl rfl) (pd_callTy cs_tuple call_tuple_of rfl g.b_tuple PyProof.Rows.boot_tuple (pa_consD (pv rfl rfl) pa_nilD))) (pss_oneD (ps_fldD rfl (c := 1) g.c_Lace g.n_own_rest (pv rfl rfl) (pd_call (dts := []) rfl (ok_in_order g) (hr.mono (by decide)) rfl g.g_in_order g.F_in_order.kp (b_in_order g) .nil (fun _ _ => rts_nil) (passes_call (takes_of rfl rfl rfl rfl) (fun _ _ _ _ h => h)) (pa_consD (pv rfl rfl) pa_nilD))))))))))
theorem b_Lace_stretches (g : Gx K mg) : Binds K (fdOf K (pgAd K "Lace" "stretches")) P_Lace_stretches [] := g.F_Lace_stretches.bindsN fun _ _ _ _ _ _ us hl => match us, hl with | [_], _ => rfl
theorem sc_Lace_stretches : FnScope N_Lace_stretches P_Lace_stretches (defScope st_Lace_stretches) := ⟨rfl, rfl, rfl, by decide +kernel, rfl, by decide +kernel, by decide +kernel⟩
theorem ok_Lace_stretches (g : Gx K mg) : FnOk P w K mg base (L2.CX P w) 1 (pgAd K "Lace" "stretches") (fdOf K (pgAd K "Lace" "stretches")) P_Lace_stretches (spOf K (cls K) (xcl K) 1 m_Lace_stretches) := by
  have sc := sc_Lace_stretches
  delta m_Lace_stretches
  delta s_Lace_stretches
  delta s_Lace_stretches_0
  exact def_fin g.F_Lace_stretches sc fun cdv A outer s H E reg hr => (pss_oneD (ps_retD (pd_add rfl (pd_callB cs_len (call_lenA) rfl g.b_len boot_len (pa_consD (pd_fld rfl (k := 1) g.c_Lace g.n_own_eyes (pv rfl rfl)) pa_nilD)) pd_int)))
theorem b_need_lace (g : Gx K mg) : Binds K (fdOf K (He.ga K "need_lace")) P_need_lace [] := g.F_need_lace.bindsN fun _ _ _ _ _ _ us hl => match us, hl with | [_], _ => rfl
theorem sc_need_lace : FnScope N_need_lace P_need_lace (defScope st_need_lace) := ⟨rfl, rfl, rfl, by decide +kernel, rfl, by decide +kernel, by decide +kernel⟩
theorem ok_need_lace (g : Gx K mg) : FnOk P w K mg base (L2.CX P w) 1 (He.ga K "need_lace") (fdOf K (He.ga K "need_lace")) P_need_lace (spOf K (cls K) (xcl K) 1 m_need_lace) := by
  have sc := sc_need_lace
  delta m_need_lace
  delta s_need_lace
  delta s_need_lace_0
  exact def_fin g.F_need_lace sc fun cdv A outer s H E reg hr => (pss_oneD (ps_ifD (pt_notD (pt_valD (pd_isiO rfl (j := 1) g.ins g.g_Lace g.k_Lace rfl g.b_isinstance rfl (pv rfl rfl)))) (pss_oneD ps_neverD) pss_nilD))
theorem b_is_move (g : Gx K mg) : Binds K (fdOf K (He.ga K "is_move")) P_is_move [] := g.F_is_move.bindsN fun _ _ _ _ _ _ us hl => match us, hl with | [_, _], _ => rfl
theorem sc_is_move : FnScope N_is_move P_is_move (defScope st_is_move) := ⟨rfl, rfl, rfl, by decide +kernel, rfl, by decide +kernel, by decide +kernel⟩
theorem ok_is_move (g : Gx K mg) : FnOk P w K mg base (L2.CX P w) 4 (He.ga K "is_move") (fdOf K (He.ga K "is_move")) P_is_move (spOf K (cls K) (xcl K) 2 m_is_move) := by
  have sc := sc_is_move
  delta m_is_move
  delta s_is_move
  delta t_is_move_0
  delta t_is_move_1
  delta s_is_move_2
  delta s_is_move_1
  delta s_is_move_0
  exact def_fin g.F_is_move sc fun cdv A outer s H E reg hr => (pss_consD (ps_ifD (pt_ofW (pw_orD (pt_notD (pt_valD (pd_isiT rfl g.ins PyProof.Rows.boot_tuple g.k_tuple rfl g.b_isinstance rfl g.b_tuple (pv rfl rfl)))) (pw_orD (pt_ne rfl hr.units (pd_callB cs_len (call_lenA) rfl g.b_len boot_len (pa_consD (pv rfl rfl) pa_nilD)) pd_int) (pw_or1D (pt_notD (pt_valD (pd_callB cs_all (cr_all rfl) rfl g.b_all PyProof.Rows.boot_all (pa_consD (pd_lc (own := [("part", 2)]) rfl sc.nd (pi_anyD rfl (pd_slice rfl (pv rfl rfl) po_noneD (po_someD pd_int))) (kgc_name (by decide)) (blkOk_by (by kernel_rfl)) (fun s H A cl fp => (pg_n sc.nd rfl rfl)) (fun s H A cl fp => pts_nilD) (fun s H A cl fp => (pd_isiT rfl g.ins PyProof.Rows.boot_str g.k_str rfl g.b_isinstance rfl g.b_str (pv rfl rfl)))) pa_nilD)))))))) (pss_oneD (ps_retD pd_bl)) pss_nilD) (pss_consD (ps_ifD (pt_ofW (pw_orD (pt_notIn rfl hr.units (pd_ix rfl hr.units (pv rfl rfl) pd_int) (pd_tup (pa_consD (pd_gS rfl g.i_TUG) (pa_consD (pd_gS rfl g.i_LET) pa_nilD)))) (pw_or1D (pt_notIn rfl hr.units (pd_ix rfl hr.units (pv rfl rfl) pd_int) (pd_tup (pa_consD (pd_gS rfl g.i_LEFT) (pa_consD (pd_gS rfl g.i_RIGHT) pa_nilD))))))) (pss_oneD (ps_retD pd_bl)) pss_nilD) (pss_oneD (ps_retD (pd_call (dts := []) rfl (ok_is_small_of g) (hr.mono (by decide)) rfl g.g_is_small_of g.F_is_small_of.kp (b_is_small_of g) .nil (fun _ _ => rts_nil) (passes_call (takes_of rfl rfl rfl rfl) (fun _ _ _ _ h => h)) (pa_consD (pd_fld rfl (k := 0) g.c_World g.n_own_names (pd_fld rfl (k := 1) g.c_Lace g.n_own_world (pv rfl rfl))) (pa_consD (pd_ix rfl hr.units (pv rfl rfl) pd_int) pa_nilD)))))))
theorem b_is_deed (g : Gx K mg) : Binds K (fdOf K (He.ga K "is_deed")) P_is_deed [] := g.F_is_deed.bindsN fun _ _ _ _ _ _ us hl => match us, hl with | [_, _, _], _ => rfl
theorem sc_is_deed : FnScope N_is_deed P_is_deed (defScope st_is_deed) := ⟨rfl, rfl, rfl, by decide +kernel, rfl, by decide +kernel, by decide +kernel⟩
theorem ok_is_deed (g : Gx K mg) : FnOk P w K mg base (L2.CX P w) 5 (He.ga K "is_deed") (fdOf K (He.ga K "is_deed")) P_is_deed (spOf K (cls K) (xcl K) 3 m_is_deed) := by
  have sc := sc_is_deed
  delta m_is_deed
  delta s_is_deed
  delta t_is_deed_0
  delta t_is_deed_1
  delta s_is_deed_2
  delta s_is_deed_1
  delta s_is_deed_0
  exact def_fin g.F_is_deed sc fun cdv A outer s H E reg hr => (pss_consD (ps_ifD (pt_valD (pd_call (dts := []) rfl (ok_is_move g) (hr.mono (by decide)) rfl g.g_is_move g.F_is_move.kp (b_is_move g) .nil (fun _ _ => rts_nil) (passes_call (takes_of rfl rfl rfl rfl) (fun _ _ _ _ h => h)) (pa_consD (pv rfl rfl) (pa_consD (pv rfl rfl) pa_nilD)))) (pss_oneD (ps_retD pd_bl)) pss_nilD) (pss_consD (ps_ifD (pt_ofW (pw_orD (pt_notD (pt_valD (pd_isiT rfl g.ins PyProof.Rows.boot_tuple g.k_tuple rfl g.b_isinstance rfl g.b_tuple (pv rfl rfl)))) (pw_orD (pt_ne rfl hr.units (pd_callB cs_len (call_lenA) rfl g.b_len boot_len (pa_consD (pv rfl rfl) pa_nilD)) pd_int) (pw_orD (pt_notD (pt_valD (pd_isiT rfl g.ins PyProof.Rows.boot_str g.k_str rfl g.b_isinstance rfl g.b_str (pd_ix rfl hr.units (pv rfl rfl) pd_int)))) (pw_or1D (pt_ne rfl hr.units (pd_ix rfl hr.units (pv rfl rfl) pd_int) (pd_gS rfl g.i_TIE))))))) (pss_oneD (ps_retD pd_bl)) pss_nilD) (pss_oneD (ps_retD (pd_and (pd_call (dts := []) rfl (ok_is_number g) (hr.mono (by decide)) rfl g.g_is_number g.F_is_number.kp (b_is_number g) .nil (fun _ _ => rts_nil) (passes_call (takes_of rfl rfl rfl rfl) (fun _ _ _ _ h => h)) (pa_consD (pd_ix rfl hr.units (pv rfl rfl) pd_int) pa_nilD)) (pd_and (pd_chain os_cmp os_cmp op_le op_lt pd_int (pd_ix rfl hr.units (pv rfl rfl) pd_int) (pd_prop (c := 1) rfl g.c_Lace g.p_stretches (ok_Lace_stretches g) (hr.mono (by decide)) (b_Lace_stretches g) passL (pv rfl rfl))) (pd_one (pd_notIn rfl hr.units (pd_ix rfl hr.units (pv rfl rfl) pd_int) (pv rfl rfl)))))))))
theorem b_own_deed (g : Gx K mg) : Binds K (fdOf K (He.ga K "own_deed")) P_own_deed [] := g.F_own_deed.bindsN fun _ _ _ _ _ _ us hl => match us, hl with | [_], _ => rfl
theorem sc_own_deed : FnScope N_own_deed P_own_deed (defScope st_own_deed) := ⟨rfl, rfl, rfl, by decide +kernel, rfl, by decide +kernel, by decide +kernel⟩
theorem ok_own_deed (g : Gx K mg) : FnOk P w K mg base (L2.CX P w) 2 (He.ga K "own_deed") (fdOf K (He.ga K "own_deed")) P_own_deed (spOf K (cls K) (xcl K) 1 m_own_deed) := by
  have sc := sc_own_deed
  delta m_own_deed
  delta s_own_deed
  delta s_own_deed_0
  exact def_fin g.F_own_deed sc fun cdv A outer s H E reg hr => (pss_oneD (ps_retD (pd_if (pt_eq rfl hr.units (pd_ix rfl hr.units (pv rfl rfl) pd_int) (pd_gS rfl g.i_TIE)) (pv rfl rfl) (pd_tup (pa_consD (pd_ix rfl hr.units (pv rfl rfl) pd_int) (pa_consD (pd_ix rfl hr.units (pv rfl rfl) pd_int) (pa_consD (pd_call (dts := []) rfl (ok_in_order g) (hr.mono (by decide)) rfl g.g_in_order g.F_in_order.kp (b_in_order g) .nil (fun _ _ => rts_nil) (passes_call (takes_of rfl rfl rfl rfl) (fun _ _ _ _ h => h)) (pa_consD (pd_ix rfl hr.units (pv rfl rfl) pd_int) pa_nilD)) pa_nilD)))))))
theorem b_reach_of (g : Gx K mg) : Binds K (fdOf K (He.ga K "reach_of")) P_reach_of [] := g.F_reach_of.bindsN fun _ _ _ _ _ _ us hl => match us, hl with | [_, _, _], _ => rfl
theorem sc_reach_of : FnScope N_reach_of P_reach_of (defScope st_reach_of) := ⟨rfl, rfl, rfl, by decide +kernel, rfl, by decide +kernel, by decide +kernel⟩
theorem ok_reach_of (g : Gx K mg) : FnOk P w K mg base (L2.CX P w) 3 (He.ga K "reach_of") (fdOf K (He.ga K "reach_of")) P_reach_of (spOf K (cls K) (xcl K) 3 m_reach_of) := by
  have sc := sc_reach_of
  delta m_reach_of
  delta s_reach_of
  delta t_reach_of_0
  delta s_reach_of_1
  delta s_reach_of_0
  exact def_fin g.F_reach_of sc fun cdv A outer s H E reg hr => (pss_consD (ps_ifD (pt_eq rfl hr.units (pv rfl rfl) (pd_gS rfl g.i_LEFT)) (pss_oneD (ps_retD (pd_listRg rfl rfl g.b_list (prg_1D rfl g.b_range (pd_add rfl (pd_callB cs_min (call_minA rfl) rfl g.b_min PyProof.Rows.boot_min (pa_consD (pd_lst (pa_starD rfl (pv rfl rfl) (pa_consD (pd_sub (pd_prop (c := 1) rfl g.c_Lace g.p_stretches (ok_Lace_stretches g) (hr.mono (by decide)) (b_Lace_stretches g) passL (pv rfl rfl)) pd_int) pa_nilD))) pa_nilD)) pd_int))))) pss_nilD) (pss_oneD (ps_retD (pd_listRg rfl rfl g.b_list (prg_2D rfl g.b_range (pd_callB cs_max (call_maxA rfl) rfl g.b_max PyProof.Rows.boot_max (pa_consD (pd_lst (pa_starD rfl (pv rfl rfl) (pa_consD pd_int pa_nilD))) pa_nilD)) (pd_prop (c := 1) rfl g.c_Lace g.p_stretches (ok_Lace_stretches g) (hr.mono (by decide)) (b_Lace_stretches g) passL (pv rfl rfl)))))))
theorem b_way_of (g : Gx K mg) : Binds K (fdOf K (He.ga K "way_of")) P_way_of [] := g.F_way_of.bindsN fun _ _ _ _ _ _ us hl => match us, hl with | [_, _, _], _ => rfl
theorem sc_way_of : FnScope N_way_of P_way_of (defScope st_way_of) := ⟨rfl, rfl, rfl, by decide +kernel, rfl, by decide +kernel, by decide +kernel⟩
theorem ok_way_of (g : Gx K mg) : FnOk P w K mg base (L2.CX P w) 2 (He.ga K "way_of") (fdOf K (He.ga K "way_of")) P_way_of (spOf K (cls K) (xcl K) 3 m_way_of) := by
  have sc := sc_way_of
  delta m_way_of
  delta s_way_of
  delta t_way_of_0
  delta t_way_of_1
  delta s_way_of_2
  delta s_way_of_1
  delta s_way_of_0
  delta s_way_of_b0_0
  exact def_fin g.F_way_of sc fun cdv A outer s H E reg hr => (pss_consD (ps_setD sc.nd rfl (loc_by rfl) pd_dict0C) (pss_consD (ps_forD (passes_of rfl) rfl (pi_anyD rfl (pd_if (pt_eq rfl hr.units (pv rfl rfl) (pd_gS rfl g.i_LEFT)) (pd_slice rfl (pd_fld rfl (k := 1) g.c_Lace g.n_own_eyes (pv rfl rfl)) po_noneD (po_someD (pv rfl rfl))) (pd_slice rfl (pd_fld rfl (k := 1) g.c_Lace g.n_own_eyes (pv rfl rfl)) (po_someD (pv rfl rfl)) po_noneD))) (pg_n sc.nd rfl rfl) kg_name (pss_oneD (ps_subD hr.units (pv rfl rfl) (pv rfl rfl) (pd_add rfl (pd_get hr.units (pv rfl rfl) (pv rfl rfl) pd_int ⟨rfl, rfl, rfl, rfl⟩) pd_int)))) (pss_oneD (ps_retD (pd_call (dts := []) rfl (ok_in_order g) (hr.mono (by decide)) rfl g.g_in_order g.F_in_order.kp (b_in_order g) .nil (fun _ _ => rts_nil) (passes_call (takes_of rfl rfl rfl rfl) (fun _ _ _ _ h => h)) (pa_consD (pv rfl rfl) pa_nilD))))))
theorem b0_State_init (g : Gx K mg) : ∃ ds, Vals (([.ref (He.dflAt ("State", some "__init__") 0 K)] : List V).drop 1) ds ∧ Binds K (fdOf K (He.ma K (He.ga K "State") "__init__")) P_State_init ds := g.F_State_init.binds1 3 1 (by simp) rfl fun _ _ _ _ _ _ _ us its h1 h2 => match us, h1, its, h2 with | [_, _, _], _, [_], _ => ⟨_, rfl, rfl⟩
theorem b1_State_init (g : Gx K mg) : ∃ ds, Vals (([.ref (He.dflAt ("State", some "__init__") 0 K)] : List V).drop 0) ds ∧ Binds K (fdOf K (He.ma K (He.ga K "State") "__init__")) P_State_init ds := g.F_State_init.binds1 2 0 (by simp) rfl fun _ _ _ _ _ _ _ us its h1 h2 => match us, h1, its, h2 with | [_, _], _, [_], _ => ⟨_, rfl, rfl⟩
theorem sc_State_init : FnScope N_State_init P_State_init (defScope st_State_init) := ⟨rfl, rfl, rfl, by decide +kernel, rfl, by decide +kernel, by decide +kernel⟩
theorem ok_State_init (g : Gx K mg) : FnOk P w K mg base (L2.CX P w) 6 (He.ma K (He.ga K "State") "__init__") (fdOf K (He.ma K (He.ga K "State") "__init__")) P_State_init (spOf K (cls K) (xcl K) 3 m_State_init) := by
  have sc := sc_State_init
  delta m_State_init
  delta s_State_init
  delta t_State_init_0
  delta t_State_init_1
  delta t_State_init_2
  delta t_State_init_3
  delta t_State_init_4
  delta t_State_init_5
  delta t_State_init_6
  delta s_State_init_7
  delta s_State_init_6
  delta s_State_init_5
  delta s_State_init_4
  delta s_State_init_3
  delta s_State_init_2
  delta s_State_init_1
  delta s_State_init_0
  delta t_State_init_b0_0
  delta s_State_init_b0_1
  delta s_State_init_b0_0
  exact def_fin g.F_State_init sc fun cdv A outer s H E reg hr => (pss_consD (ps_exprD (pd_call (dts := []) rfl (ok_need_lace g) (hr.mono (by decide)) rfl g.g_need_lace g.F_need_lace.kp (b_need_lace g) .nil (fun _ _ => rts_nil) (passes_call (takes_of rfl rfl rfl rfl) (fun _ _ _ _ h => h)) (pa_consD (pv rfl rfl) pa_nilD))) (pss_consD (ps_ifD (pt_notD (pt_valD (pd_call (dts := []) rfl (ok_is_list g) (hr.mono (by decide)) rfl g.g_is_list g.F_is_list.kp (b_is_list g) .nil (fun _ _ => rts_nil) (passes_call (takes_of rfl rfl rfl rfl) (fun _ _ _ _ h => h)) (pa_consD (pv rfl rfl) pa_nilD)))) (pss_oneD ps_neverD) pss_nilD) (pss_consD (ps_setD sc.nd rfl (loc_by rfl) (pd_lstC pa_nilD)) (pss_consD (ps_forD (passes_of rfl) rfl (pi_enumD rfl rfl g.b_enumerate (pa_consD (pv rfl rfl) pa_nilD)) (pg_tup rfl (pgs_cons (pg_n sc.nd rfl rfl) (pgs_cons (pg_n sc.nd rfl rfl) pgs_nil))) (kg_tup (js := [4, 5])) (pss_consD (ps_ifD (pt_notD (pt_valD (pd_call (dts := []) rfl (ok_is_deed g) (hr.mono (by decide)) rfl g.g_is_deed g.F_is_deed.kp (b_is_deed g) .nil (fun _ _ => rts_nil) (passes_call (takes_of rfl rfl rfl rfl) (fun _ _ _ _ h => h)) (pa_consD (pv rfl rfl) (pa_consD (pv rfl rfl) (pa_consD (pv rfl rfl) pa_nilD)))))) (pss_oneD ps_neverD) pss_nilD) (pss_oneD (ps_ifD (pt_eq rfl hr.units (pd_ix rfl hr.units (pv rfl rfl) pd_int) (pd_gS rfl g.i_TIE)) (pss_oneD (ps_exprD (pd_append rfl (pv rfl rfl) (pd_ix rfl hr.units (pv rfl rfl) pd_int)))) pss_nilD)))) (pss_consD (ps_ifD (pt_gt (pd_callB cs_len (call_lenA) rfl g.b_len boot_len (pa_consD (pv rfl rfl) pa_nilD)) (pd_gI rfl g.i_MOST_DEEDS)) (pss_oneD ps_neverD) pss_nilD) (pss_consD (ps_fldD rfl (c := 2) g.c_State g.n_own_lace (pv rfl rfl) (pv rfl rfl)) (pss_consD (ps_fldD rfl (c := 2) g.c_State g.n_own_deeds (pv rfl rfl) (pd_lc (own := [("deed", 5)]) rfl sc.nd (pi_anyD rfl (pv rfl rfl)) (kgc_name (by decide)) (blkOk_by (by kernel_rfl)) (fun s H A cl fp => (pg_n sc.nd rfl rfl)) (fun s H A cl fp => pts_nilD) (fun s H A cl fp => (pd_call (dts := []) rfl (ok_own_deed g) (hr.mono (by decide)) rfl g.g_own_deed g.F_own_deed.kp (b_own_deed g) .nil (fun _ _ => rts_nil) passL (pa_consD (pv rfl rfl) pa_nilD))))) (pss_oneD (ps_fldD rfl (c := 2) g.c_State g.n_own_tied (pv rfl rfl) (pd_callTy cs_tuple call_tuple_of rfl g.b_tuple PyProof.Rows.boot_tuple (pa_consD (pd_callB cs_sorted (call_sortedA rfl) rfl g.b_sorted PyProof.Rows.boot_sorted (pa_consD (pv rfl rfl) pa_nilD)) pa_nilD)))))))))))
theorem b_need_state (g : Gx K mg) : Binds K (fdOf K (He.ga K "need_state")) P_need_state [] := g.F_need_state.bindsN fun _ _ _ _ _ _ us hl => match us, hl with | [_], _ => rfl
theorem sc_need_state : FnScope N_need_state P_need_state (defScope st_need_state) := ⟨rfl, rfl, rfl, by decide +kernel, rfl, by decide +kernel, by decide +kernel⟩
theorem ok_need_state (g : Gx K mg) : FnOk P w K mg base (L2.CX P w) 1 (He.ga K "need_state") (fdOf K (He.ga K "need_state")) P_need_state (spOf K (cls K) (xcl K) 1 m_need_state) := by
  have sc := sc_need_state
  delta m_need_state
  delta s_need_state
  delta s_need_state_0
  exact def_fin g.F_need_state sc fun cdv A outer s H E reg hr => (pss_oneD (ps_ifD (pt_notD (pt_valD (pd_isiO rfl (j := 2) g.ins g.g_State g.k_State rfl g.b_isinstance rfl (pv rfl rfl)))) (pss_oneD ps_neverD) pss_nilD))
theorem b_pulls (g : Gx K mg) : Binds K (fdOf K (He.ga K "pulls")) P_pulls [] := g.F_pulls.bindsN fun _ _ _ _ _ _ us hl => match us, hl with | [_, _], _ => rfl
theorem sc_pulls : FnScope N_pulls P_pulls (defScope st_pulls) := ⟨rfl, rfl, rfl, by decide +kernel, rfl, by decide +kernel, by decide +kernel⟩
theorem ok_pulls (g : Gx K mg) : FnOk P w K mg base (L2.CX P w) 4 (He.ga K "pulls") (fdOf K (He.ga K "pulls")) P_pulls (spOf K (cls K) (xcl K) 2 m_pulls) := by
  have sc := sc_pulls
  delta m_pulls
  delta s_pulls
  delta t_pulls_0
  delta t_pulls_1
  delta t_pulls_2
  delta t_pulls_3
  delta t_pulls_4
  delta s_pulls_5
  delta s_pulls_4
  delta s_pulls_3
  delta s_pulls_2
  delta s_pulls_1
  delta s_pulls_0
  delta t_pulls_b0_0
  delta t_pulls_b0_1
  delta s_pulls_b0_2
  delta s_pulls_b0_1
  delta s_pulls_b0_0
  delta t_pulls_b1_0
  delta t_pulls_b1_1
  delta s_pulls_b1_2
  delta s_pulls_b1_1
  delta s_pulls_b1_0
  exact def_fin g.F_pulls sc fun cdv A outer s H E reg hr => (pss_consD (ps_exprD (pd_call (dts := []) rfl (ok_need_state g) (hr.mono (by decide)) rfl g.g_need_state g.F_need_state.kp (b_need_state g) .nil (fun _ _ => rts_nil) (passes_call (takes_of rfl rfl rfl rfl) (fun _ _ _ _ h => h)) (pa_consD (pv rfl rfl) pa_nilD))) (pss_consD (ps_exprD (pd_call (dts := []) rfl (ok_need_powers g) (hr.mono (by decide)) rfl g.g_need_powers g.F_need_powers.kp (b_need_powers g) .nil (fun _ _ => rts_nil) (passes_call (takes_of rfl rfl rfl rfl) (fun _ _ _ _ h => h)) (pa_consD (pd_fld rfl (k := 1) g.c_Lace g.n_own_world (pd_fld rfl (k := 2) g.c_State g.n_own_lace (pv rfl rfl))) (pa_consD (pv rfl rfl) pa_nilD)))) (pss_consD (ps_parD rfl sc.nd (i := 2) (j := 3) rfl rfl (by decide) rfl rfl (pa_consD (pd_fld rfl (k := 2) g.c_State g.n_own_lace (pv rfl rfl)) (pa_consD (pd_lstC pa_nilD) pa_nilD)) (by rfl)) (pss_consD (ps_setD sc.nd rfl (loc_by rfl) (pd_mulC (pd_lst (pa_consD (pd_call (dts := []) rfl (ok_worth_by g) (hr.mono (by decide)) rfl g.g_worth_by g.F_worth_by.kp (b_worth_by g) .nil (fun _ _ => rts_nil) (passes_call (takes_of rfl rfl rfl rfl) (fun _ _ _ _ h => h)) (pa_consD (pd_fld rfl (k := 1) g.c_Lace g.n_own_rest (pv rfl rfl)) (pa_consD (pv rfl rfl) pa_nilD))) pa_nilD)) (pd_prop (c := 1) rfl g.c_Lace g.p_stretches (ok_Lace_stretches g) (hr.mono (by decide)) (b_Lace_stretches g) passL (pv rfl rfl)))) (pss_consD (ps_forD (passes_of rfl) rfl (pi_anyD rfl (pd_fld rfl (k := 2) g.c_State g.n_own_deeds (pv rfl rfl))) (pg_n sc.nd rfl rfl) kg_name (pss_consD (ps_ifD (pt_eq rfl hr.units (pd_ix rfl hr.units (pv rfl rfl) pd_int) (pd_gS rfl g.i_TIE)) (pss_consD (ps_exprD (pd_append rfl (pv rfl rfl) (pd_ix rfl hr.units (pv rfl rfl) pd_int))) (pss_oneD ps_continueD)) pss_nilD) (pss_consD (ps_setD sc.nd rfl (loc_by rfl) (pd_call (dts := []) rfl (ok_worth_by g) (hr.mono (by decide)) rfl g.g_worth_by g.F_worth_by.kp (b_worth_by g) .nil (fun _ _ => rts_nil) (passes_call (takes_of rfl rfl rfl rfl) (fun _ _ _ _ h => h)) (pa_consD (pd_ix rfl hr.units (pv rfl rfl) pd_int) (pa_consD (pv rfl rfl) pa_nilD)))) (pss_oneD (ps_forD (passes_of rfl) rfl (pi_anyD rfl (pd_call (dts := []) rfl (ok_reach_of g) (hr.mono (by decide)) rfl g.g_reach_of g.F_reach_of.kp (b_reach_of g) .nil (fun _ _ => rts_nil) (passes_call (takes_of rfl rfl rfl rfl) (fun _ _ _ _ h => h)) (pa_consD (pv rfl rfl) (pa_consD (pv rfl rfl) (pa_consD (pd_ix rfl hr.units (pv rfl rfl) pd_int) pa_nilD))))) (pg_n sc.nd rfl rfl) kg_name (pss_consD (ps_setD sc.nd rfl (loc_by rfl) (pd_call (dts := []) rfl (ok_worth_by g) (hr.mono (by decide)) rfl g.g_worth_by g.F_worth_by.kp (b_worth_by g) .nil (fun _ _ => rts_nil) (passes_call (takes_of rfl rfl rfl rfl) (fun _ _ _ _ h => h)) (pa_consD (pd_call (dts := []) rfl (ok_way_of g) (hr.mono (by decide)) rfl g.g_way_of g.F_way_of.kp (b_way_of g) .nil (fun _ _ => rts_nil) (passes_call (takes_of rfl rfl rfl rfl) (fun _ _ _ _ h => h)) (pa_consD (pv rfl rfl) (pa_consD (pd_ix rfl hr.units (pv rfl rfl) pd_int) (pa_consD (pv rfl rfl) pa_nilD)))) (pa_consD (pv rfl rfl) pa_nilD)))) (pss_consD (ps_setD sc.nd rfl (loc_by rfl) (pd_ix rfl hr.units (pv rfl rfl) (pv rfl rfl))) (pss_oneD (ps_subD hr.units (pv rfl rfl) (pv rfl rfl) (pd_if (pt_eq rfl hr.units (pd_ix rfl hr.units (pv rfl rfl) pd_int) (pd_gS rfl g.i_TUG)) (pd_callB cs_max (call_maxA rfl) rfl g.b_max PyProof.Rows.boot_max (pa_consD (pv rfl rfl) (pa_consD (pd_sub (pv rfl rfl) (pv rfl rfl)) pa_nilD))) (pd_callB cs_min (call_minA rfl) rfl g.b_min PyProof.Rows.boot_min (pa_consD (pv rfl rfl) (pa_consD (pd_add rfl (pv rfl rfl) (pv rfl rfl)) pa_nilD))))))))))))) (pss_oneD (ps_retD (pv rfl rfl))))))))
theorem b_law_begun (g : Gx K mg) : Binds K (fdOf K (He.ga K "_law_begun")) P_law_begun [] := g.F_law_begun.bindsN fun _ _ _ _ _ _ us hl => match us, hl with | [_], _ => rfl
theorem sc_law_begun : FnScope N_law_begun P_law_begun (defScope st_law_begun) := ⟨rfl, rfl, rfl, by decide +kernel, rfl, by decide +kernel, by decide +kernel⟩
theorem ok_law_begun (g : Gx K mg) : FnOk P w K mg base (L2.CX P w) 1 (He.ga K "_law_begun") (fdOf K (He.ga K "_law_begun")) P_law_begun (spOf K (cls K) (xcl K) 1 m_law_begun) := by
  have sc := sc_law_begun
  delta m_law_begun
  delta s_law_begun
  delta t_law_begun_0
  delta s_law_begun_1
  delta s_law_begun_0
  exact def_ok g.F_law_begun sc fun cdv A outer s H E reg hr => (pss_consD (ps_setLcCD (own := [("_law_grain", 2)]) (i := 1) rfl sc.nd rfl rfl (sw_true rfl rfl rfl (by kernel_rfl)) (pi_scrD rfl (pv rfl rfl)) (kgc_name (by decide)) (blkOk_by (by kernel_rfl)) (fun s H A cl fp => (pg_n sc.nd rfl rfl)) (fun s H A cl fp => (pts_oneD (pt_ge (pd_callB cs_abs call_abs rfl g.b_abs PyProof.Rows.boot_abs (pa_consD (pv rfl rfl) pa_nilD)) (pd_pow pd_int pd_int)))) (fun s H A cl fp => (pd_sub (pd_callB cs_abs call_abs rfl g.b_abs PyProof.Rows.boot_abs (pa_consD (pv rfl rfl) pa_nilD)) (pd_pow pd_int pd_int)))) (pss_oneD (ps_retD (pd_dictC (fs := [((eC (.str "wide")), (eVar 1)), ((eC (.str "cells")), (eLc (iScr (eVar 0)) [2] (gN 2) fYes (eOp dMod (eCall fInt (aCons (eCall fAbs (aCons (eVar 2) aNil)) aNil)) (eC (.int 2147483629))))), ((eC (.str "rest")), (eC (.int 0))), ((eC (.str "turn")), (eC (.int 0)))]) (pps_cons pd_str (pv rfl rfl) (pps_cons pd_str (pd_lc (own := [("_law_grain", 2)]) rfl sc.nd (pi_scrD rfl (pv rfl rfl)) (kgc_name (by decide)) (blkOk_by (by kernel_rfl)) (fun s H A cl fp => (pg_n sc.nd rfl rfl)) (fun s H A cl fp => pts_nilD) (fun s H A cl fp => (pd_mod (pd_callTy cs_int call_int1 rfl g.b_int PyProof.Rows.boot_int (pa_consD (pd_callB cs_abs call_abs rfl g.b_abs PyProof.Rows.boot_abs (pa_consD (pv rfl rfl) pa_nilD)) pa_nilD)) pd_int))) (pps_cons pd_str pd_int (pps_cons pd_str pd_int pps_nil))))))))
theorem b_law_mixed (g : Gx K mg) : Binds K (fdOf K (He.ga K "_law_mixed")) P_law_mixed [] := g.F_law_mixed.bindsN fun _ _ _ _ _ _ us hl => match us, hl with | [_], _ => rfl
theorem sc_law_mixed : FnScope N_law_mixed P_law_mixed (defScope st_law_mixed) := ⟨rfl, rfl, rfl, by decide +kernel, rfl, by decide +kernel, by decide +kernel⟩
theorem ok_law_mixed (g : Gx K mg) : FnOk P w K mg base (L2.CX P w) 1 (He.ga K "_law_mixed") (fdOf K (He.ga K "_law_mixed")) P_law_mixed (spOf K (cls K) (xcl K) 1 m_law_mixed) := by
  have sc := sc_law_mixed
  delta m_law_mixed
  delta s_law_mixed
  delta t_law_mixed_0
  delta t_law_mixed_1
  delta t_law_mixed_2
  delta s_law_mixed_3
  delta s_law_mixed_2
  delta s_law_mixed_1
  delta s_law_mixed_0
  delta t_law_mixed_b0_0
  delta t_law_mixed_b0_1
  delta s_law_mixed_b0_2
  delta s_law_mixed_b0_1
  delta s_law_mixed_b0_0
  delta s_law_mixed_b1_0
  exact def_fin g.F_law_mixed sc fun cdv A outer s H E reg hr => (pss_consD (ps_parD rfl sc.nd (i := 1) (j := 2) rfl rfl (by decide) rfl rfl (pa_consD (pd_add rfl (pd_ix rfl hr.units (pv rfl rfl) pd_str) pd_int) (pa_consD pd_int pa_nilD)) (by rfl)) (pss_consD (ps_subD hr.units (pv rfl rfl) pd_str (pv rfl rfl)) (pss_consD (ps_forD (passes_of rfl) rfl (pi_anyD rfl (pd_lst (pa_consD pd_int (pa_consD pd_int (pa_consD pd_int (pa_consD pd_int pa_nilD)))))) (pg_n sc.nd rfl rfl) kg_name (pss_consD (ps_setD sc.nd rfl (loc_by rfl) (pd_add rfl (pd_mul pd_int (pv rfl rfl)) (pd_div (pv rfl rfl) pd_int))) (pss_consD (ps_forD (passes_of rfl) rfl (pi_anyD rfl (pd_ix rfl hr.units (pv rfl rfl) pd_str)) (pg_n sc.nd rfl rfl) kg_name (pss_oneD (ps_setD sc.nd rfl (loc_by rfl) (pd_mod (pd_callTy cs_int call_int1 rfl g.b_int PyProof.Rows.boot_int (pa_consD (pd_add rfl (pd_add rfl (pd_mul (pv rfl rfl) pd_int) (pv rfl rfl)) (pv rfl rfl)) pa_nilD)) (pv rfl rfl))))) (pss_oneD (ps_setD sc.nd rfl (loc_by rfl) (pd_add rfl (pd_mul (pv rfl rfl) pd_int) (pd_mod (pd_callTy cs_int call_int1 rfl g.b_int PyProof.Rows.boot_int (pa_consD (pd_pow (pv rfl rfl) pd_int) pa_nilD)) (pv rfl rfl)))))))) (pss_oneD (ps_retD (pv rfl rfl))))))
theorem b_law_take (g : Gx K mg) : Binds K (fdOf K (He.ga K "_law_take")) P_law_take [] := g.F_law_take.bindsN fun _ _ _ _ _ _ us hl => match us, hl with | [_, _], _ => rfl
theorem sc_law_take : FnScope N_law_take P_law_take (defScope st_law_take) := ⟨rfl, rfl, rfl, by decide +kernel, rfl, by decide +kernel, by decide +kernel⟩
theorem ok_law_take (g : Gx K mg) : FnOk P w K mg base (L2.CX P w) 2 (He.ga K "_law_take") (fdOf K (He.ga K "_law_take")) P_law_take (spOf K (cls K) (xcl K) 2 m_law_take) := by
  have sc := sc_law_take
  delta m_law_take
  delta s_law_take
  delta t_law_take_0
  delta t_law_take_1
  delta t_law_take_2
  delta s_law_take_3
  delta s_law_take_2
  delta s_law_take_1
  delta s_law_take_0
  exact def_fin g.F_law_take sc fun cdv A outer s H E reg hr => (pss_consD (ps_ifD (pt_eq rfl hr.units (pd_ix rfl hr.units (pv rfl rfl) pd_str) pd_int) (pss_oneD (ps_subD hr.units (pv rfl rfl) pd_str (pd_if (pt_ne rfl hr.units (pd_ix rfl hr.units (pv rfl rfl) pd_str) (pd_lst pa_nilD)) (pd_pop rfl (pd_ix rfl hr.units (pv rfl rfl) pd_str) pd_int) (pd_call (dts := []) rfl (ok_law_mixed g) (hr.mono (by decide)) rfl g.g__law_mixed g.F_law_mixed.kp (b_law_mixed g) .nil (fun _ _ => rts_nil) (passes_call (takes_of rfl rfl rfl rfl) (fun _ _ _ _ h => h)) (pa_consD (pv rfl rfl) pa_nilD))))) pss_nilD) (pss_consD (ps_setD sc.nd rfl (loc_by rfl) (pd_mod (pd_callTy cs_int call_int1 rfl g.b_int PyProof.Rows.boot_int (pa_consD (pd_ix rfl hr.units (pv rfl rfl) pd_str) pa_nilD)) (pv rfl rfl))) (pss_consD (ps_subD hr.units (pv rfl rfl) pd_str (pd_div (pd_ix rfl hr.units (pv rfl rfl) pd_str) (pv rfl rfl))) (pss_oneD (ps_retD (pv rfl rfl))))))
theorem b_law_pick (g : Gx K mg) : Binds K (fdOf K (He.ga K "_law_pick")) P_law_pick [] := g.F_law_pick.bindsN fun _ _ _ _ _ _ us hl => match us, hl with | [_, _], _ => rfl
theorem sc_law_pick : FnScope N_law_pick P_law_pick (defScope st_law_pick) := ⟨rfl, rfl, rfl, by decide +kernel, rfl, by decide +kernel, by decide +kernel⟩
theorem ok_law_pick (g : Gx K mg) : FnOk P w K mg base (L2.CX P w) 3 (He.ga K "_law_pick") (fdOf K (He.ga K "_law_pick")) P_law_pick (spOf K (cls K) (xcl K) 2 m_law_pick) := by
  have sc := sc_law_pick
  delta m_law_pick
  delta s_law_pick
  delta s_law_pick_0
  exact def_fin g.F_law_pick sc fun cdv A outer s H E reg hr => (pss_oneD (ps_retD (pd_ix rfl hr.units (pv rfl rfl) (pd_call (dts := []) rfl (ok_law_take g) (hr.mono (by decide)) rfl g.g__law_take g.F_law_take.kp (b_law_take g) .nil (fun _ _ => rts_nil) (passes_call (takes_of rfl rfl rfl rfl) (fun _ _ _ _ h => h)) (pa_consD (pv rfl rfl) (pa_consD (pd_callB cs_len (call_lenA) rfl g.b_len boot_len (pa_consD (pv rfl rfl) pa_nilD)) pa_nilD))))))
theorem b_law_told (g : Gx K mg) : Binds K (fdOf K (He.ga K "_law_told")) P_law_told [] := g.F_law_told.bindsN fun _ _ _ _ _ _ us hl => match us, hl with | [_, _, _, _], _ => rfl
theorem sc_law_told : FnScope N_law_told P_law_told (defScope st_law_told) := ⟨rfl, rfl, rfl, by decide +kernel, rfl, by decide +kernel, by decide +kernel⟩
theorem ok_law_told (g : Gx K mg) : FnOk P w K mg base (L2.CX P w) 8 (He.ga K "_law_told") (fdOf K (He.ga K "_law_told")) P_law_told (spOf K (cls K) (xcl K) 4 m_law_told) := by
  have sc := sc_law_told
  delta m_law_told
  delta s_law_told
  delta t_law_told_0
  delta s_law_told_1
  delta s_law_told_0
  exact def_fin g.F_law_told sc fun cdv A outer s H E reg hr => (pss_consD (ps_setD sc.nd rfl (loc_by rfl) (pd_make (c := 0) (dts := [.tup []]) rfl g.mk_World (ok_World_init g) (hr.mono (by decide)) rfl g.g_World (b1_World_init g).choose_spec.2 (b1_World_init g).choose_spec.1 (fun c hc => etB_ok g.e_World_init c hc) (passes_call (takes_of rfl rfl rfl rfl) (fun _ _ _ _ h => h)) (pa_consD (pd_lst (pa_consD pd_str pa_nilD)) (pa_consD (pd_lst (pa_consD pd_str pa_nilD)) pa_nilD)))) (pss_oneD (ps_retD (pd_call (dts := []) rfl (ok_pulls g) (hr.mono (by decide)) rfl g.g_pulls g.F_pulls.kp (b_pulls g) .nil (fun _ _ => rts_nil) (passes_call (takes_of rfl rfl rfl rfl) (fun _ _ _ _ h => h)) (pa_consD (pd_make (c := 2) (dts := []) rfl g.mk_State (ok_State_init g) (hr.mono (by decide)) rfl g.g_State (b0_State_init g).choose_spec.2 (b0_State_init g).choose_spec.1 (fun _ _ => rts_nil) (passes_call (takes_of rfl rfl rfl rfl) (fun _ _ _ _ h => h)) (pa_consD (pd_make (c := 1) (dts := []) rfl g.mk_Lace (ok_Lace_init g) (hr.mono (by decide)) rfl g.g_Lace (b_Lace_init g) .nil (fun _ _ => rts_nil) (passes_call (takes_of rfl rfl rfl rfl) (fun _ _ _ _ h => h)) (pa_consD (pv rfl rfl) (pa_consD (pd_mul (pd_lst (pa_consD pd_str pa_nilD)) (pv rfl rfl)) (pa_consD pd_dict0 pa_nilD)))) (pa_consD (pv rfl rfl) pa_nilD))) (pa_consD (pd_dict (fs := [((eC (.str "g")), (eVar 2)), ((eC (.str "f")), (eVar 3))]) (pps_cons pd_str (pv rfl rfl) (pps_cons pd_str (pv rfl rfl) pps_nil))) pa_nilD))))))
theorem b_law (g : Gx K mg) : Binds K (fdOf K (He.ga K "law")) P_law [] := g.F_law.bindsN fun _ _ _ _ _ _ us hl => match us, hl with | [_], _ => rfl
theorem sc_law : FnScope N_law P_law (defScope st_law) := ⟨rfl, rfl, rfl, by decide +kernel, rfl, by decide +kernel, by decide +kernel⟩
theorem ok_law (g : Gx K mg) : FnOk P w K mg base (L2.CX P w) 9 (He.ga K "law") (fdOf K (He.ga K "law")) P_law (spOf K (cls K) (xcl K) 1 m_law) := by
  have sc := sc_law
  delta m_law
  delta s_law
  delta t_law_0
  delta t_law_1
  delta s_law_2
  delta s_law_1
  delta s_law_0
  delta t_law_b0_0
  delta t_law_b0_1
  delta t_law_b0_2
  delta t_law_b0_3
  delta t_law_b0_4
  delta t_law_b0_5
  delta t_law_b0_6
  delta t_law_b0_7
  delta t_law_b0_8
  delta t_law_b0_9
  delta t_law_b0_10
  delta t_law_b0_11
  delta t_law_b0_12
  delta t_law_b0_13
  delta t_law_b0_14
  delta t_law_b0_15
  delta t_law_b0_16
  delta t_law_b0_17
  delta t_law_b0_18
  delta t_law_b0_19
  delta t_law_b0_20
  delta t_law_b0_21
  delta s_law_b0_22
  delta s_law_b0_21
  delta s_law_b0_20
  delta s_law_b0_19
  delta s_law_b0_18
  delta s_law_b0_17
  delta s_law_b0_16
  delta s_law_b0_15
  delta s_law_b0_14
  delta s_law_b0_13
  delta s_law_b0_12
  delta s_law_b0_11
  delta s_law_b0_10
  delta s_law_b0_9
  delta s_law_b0_8
  delta s_law_b0_7
  delta s_law_b0_6
  delta s_law_b0_5
  delta s_law_b0_4
  delta s_law_b0_3
  delta s_law_b0_2
  delta s_law_b0_1
  delta s_law_b0_0
  exact def_fin g.F_law sc fun cdv A outer s H E reg hr => (pss_consD (ps_setD sc.nd rfl (loc_by rfl) (pd_call (dts := []) rfl (ok_law_begun g) (hr.mono (by decide)) rfl g.g__law_begun g.F_law_begun.kp (b_law_begun g) .nil (fun _ _ => rts_nil) (passes_call (takes_of rfl rfl rfl rfl) (fun _ _ _ _ h => h)) (pa_consD (pv rfl rfl) pa_nilD))) (pss_consD (ps_forD (passes_of rfl) rfl (pi_rg1D rfl g.b_range (pa_consD (pd_add rfl pd_int (pd_callB cs_min (call_minA rfl) rfl g.b_min PyProof.Rows.boot_min (pa_consD (pd_callB cs_len (call_lenA) rfl g.b_len boot_len (pa_consD (pv rfl rfl) pa_nilD)) (pa_consD pd_int pa_nilD)))) pa_nilD)) (pg_n sc.nd rfl rfl) kg_name (pss_consD (ps_asgD (pd_tup (pa_consD (pd_add rfl pd_int (pd_call (dts := []) rfl (ok_law_take g) (hr.mono (by decide)) rfl g.g__law_take g.F_law_take.kp (b_law_take g) .nil (fun _ _ => rts_nil) (passes_call (takes_of rfl rfl rfl rfl) (fun _ _ _ _ h => h)) (pa_consD (pv rfl rfl) (pa_consD pd_int pa_nilD)))) (pa_consD (pd_call (dts := []) rfl (ok_law_take g) (hr.mono (by decide)) rfl g.g__law_take g.F_law_take.kp (b_law_take g) .nil (fun _ _ => rts_nil) (passes_call (takes_of rfl rfl rfl rfl) (fun _ _ _ _ h => h)) (pa_consD (pv rfl rfl) (pa_consD (pd_call (dts := []) rfl (ok_law_pick g) (hr.mono (by decide)) rfl g.g__law_pick g.F_law_pick.kp (b_law_pick g) .nil (fun _ _ => rts_nil) (passes_call (takes_of rfl rfl rfl rfl) (fun _ _ _ _ h => h)) (pa_consD (pv rfl rfl) (pa_consD (pd_lst (pa_consD pd_int (pa_consD pd_int (pa_consD (pd_pow pd_int pd_int) pa_nilD)))) pa_nilD))) pa_nilD))) pa_nilD))) (pg_tup rfl (pgs_cons (pg_n sc.nd rfl rfl) (pgs_cons (pg_n sc.nd rfl rfl) pgs_nil))) (kg_tup (js := [3, 4]))) (pss_consD (ps_asgD (pd_tup (pa_consD (pd_call (dts := []) rfl (ok_law_take g) (hr.mono (by decide)) rfl g.g__law_take g.F_law_take.kp (b_law_take g) .nil (fun _ _ => rts_nil) (passes_call (takes_of rfl rfl rfl rfl) (fun _ _ _ _ h => h)) (pa_consD (pv rfl rfl) (pa_consD (pd_call (dts := []) rfl (ok_law_pick g) (hr.mono (by decide)) rfl g.g__law_pick g.F_law_pick.kp (b_law_pick g) .nil (fun _ _ => rts_nil) (passes_call (takes_of rfl rfl rfl rfl) (fun _ _ _ _ h => h)) (pa_consD (pv rfl rfl) (pa_consD (pd_lst (pa_consD pd_int (pa_consD pd_int (pa_consD (pd_pow pd_int pd_int) pa_nilD)))) pa_nilD))) pa_nilD))) (pa_consD (pd_listRg rfl rfl g.b_list (prg_1D rfl g.b_range (pd_add rfl (pv rfl rfl) pd_int))) pa_nilD))) (pg_tup rfl (pgs_cons (pg_n sc.nd rfl rfl) (pgs_cons (pg_n sc.nd rfl rfl) pgs_nil))) (kg_tup (js := [5, 6]))) (pss_consD (ps_parD rfl sc.nd (i := 7) (j := 8) rfl rfl (by decide) rfl rfl (pa_consD (pd_tup (pa_consD pd_str (pa_consD pd_str (pa_consD (pd_dict (fs := [((eC (.str "f")), (eC (.int 1)))]) (pps_cons pd_str pd_int pps_nil)) pa_nilD)))) (pa_consD (pd_tup (pa_consD pd_str (pa_consD pd_str (pa_consD (pd_dict (fs := [((eC (.str "f")), (eNeg (eC (.int 1))))]) (pps_cons pd_str (pd_neg pd_int) pps_nil)) pa_nilD)))) pa_nilD)) (by rfl)) (pss_consD (ps_setLcD (own := [("_law_k", 10)]) (i := 9) rfl sc.nd rfl rfl (sw_true rfl rfl rfl (by kernel_rfl)) (pi_anyD rfl (pv rfl rfl)) (kgc_name (by decide)) (blkOk_by (by kernel_rfl)) (fun s H A cl fp => (pg_n sc.nd rfl rfl)) (fun s H A cl fp => pts_nilD) (fun s H A cl fp => (pd_callB cs_max (call_maxA rfl) rfl g.b_max PyProof.Rows.boot_max (pa_consD pd_int (pa_consD (pd_sub (pv rfl rfl) (pd_mul (pv rfl rfl) (pv rfl rfl))) pa_nilD))))) (pss_consD (ps_ifD (pt_ne rfl hr.units (pd_call (dts := []) rfl (ok_law_told g) (hr.mono (by decide)) rfl g.g__law_told g.F_law_told.kp (b_law_told g) .nil (fun _ _ => rts_nil) (passes_call (takes_of rfl rfl rfl rfl) (fun _ _ _ _ h => h)) (pa_consD (pv rfl rfl) (pa_consD (pd_lst (pa_consD (pv rfl rfl) pa_nilD)) (pa_consD (pv rfl rfl) (pa_consD (pv rfl rfl) pa_nilD))))) (pv rfl rfl)) (pss_oneD (ps_retD pd_bl)) pss_nilD) (pss_consD (ps_ifD (pt_ne rfl hr.units (pd_call (dts := []) rfl (ok_law_told g) (hr.mono (by decide)) rfl g.g__law_told g.F_law_told.kp (b_law_told g) .nil (fun _ _ => rts_nil) (passes_call (takes_of rfl rfl rfl rfl) (fun _ _ _ _ h => h)) (pa_consD (pv rfl rfl) (pa_consD (pd_lst (pa_consD (pd_tup (pa_consD pd_str (pa_consD pd_str (pa_consD (pd_dict (fs := [((eC (.str "f")), (eC (.int 1)))]) (pps_cons pd_str pd_int pps_nil)) pa_nilD)))) pa_nilD)) (pa_consD (pv rfl rfl) (pa_consD (pv rfl rfl) pa_nilD))))) (pd_rev rfl (pv rfl rfl))) (pss_oneD (ps_retD pd_bl)) pss_nilD) (pss_consD (ps_ifD (pt_ne rfl hr.units (pd_call (dts := []) rfl (ok_law_told g) (hr.mono (by decide)) rfl g.g__law_told g.F_law_told.kp (b_law_told g) .nil (fun _ _ => rts_nil) (passes_call (takes_of rfl rfl rfl rfl) (fun _ _ _ _ h => h)) (pa_consD (pv rfl rfl) (pa_consD (pd_lst (pa_consD (pv rfl rfl) pa_nilD)) (pa_consD (pv rfl rfl) (pa_consD (pv rfl rfl) pa_nilD))))) (pd_lc (own := [("_law_one", 11)]) rfl sc.nd (pi_anyD rfl (pv rfl rfl)) (kgc_name (by decide)) (blkOk_by (by kernel_rfl)) (fun s H A cl fp => (pg_n sc.nd rfl rfl)) (fun s H A cl fp => pts_nilD) (fun s H A cl fp => (pd_sub pd_int (pv rfl rfl))))) (pss_oneD (ps_retD pd_bl)) pss_nilD) (pss_consD (ps_setLcD (own := [("_law_k", 10)]) (i := 9) rfl sc.nd rfl rfl (sw_true rfl rfl rfl (by kernel_rfl)) (pi_anyD rfl (pv rfl rfl)) (kgc_name (by decide)) (blkOk_by (by kernel_rfl)) (fun s H A cl fp => (pg_n sc.nd rfl rfl)) (fun s H A cl fp => pts_nilD) (fun s H A cl fp => (pd_callB cs_min (call_minA rfl) rfl g.b_min PyProof.Rows.boot_min (pa_consD (pd_callB cs_max (call_maxA rfl) rfl g.b_max PyProof.Rows.boot_max (pa_consD pd_int (pa_consD (pd_sub (pv rfl rfl) (pd_mul (pv rfl rfl) (pv rfl rfl))) pa_nilD))) (pa_consD (pd_mul (pv rfl rfl) (pv rfl rfl)) pa_nilD))))) (pss_consD (ps_ifD (pt_ne rfl hr.units (pd_call (dts := []) rfl (ok_law_told g) (hr.mono (by decide)) rfl g.g__law_told g.F_law_told.kp (b_law_told g) .nil (fun _ _ => rts_nil) (passes_call (takes_of rfl rfl rfl rfl) (fun _ _ _ _ h => h)) (pa_consD (pv rfl rfl) (pa_consD (pd_lst (pa_consD (pv rfl rfl) (pa_consD (pd_tup (pa_consD pd_str (pa_consD pd_str (pa_consD pd_dict0 pa_nilD)))) pa_nilD))) (pa_consD (pv rfl rfl) (pa_consD (pv rfl rfl) pa_nilD))))) (pv rfl rfl)) (pss_oneD (ps_retD pd_bl)) pss_nilD) (pss_consD (ps_setLcD (own := [("_law_k", 10)]) (i := 9) rfl sc.nd rfl rfl (sw_true rfl rfl rfl (by kernel_rfl)) (pi_anyD rfl (pv rfl rfl)) (kgc_name (by decide)) (blkOk_by (by kernel_rfl)) (fun s H A cl fp => (pg_n sc.nd rfl rfl)) (fun s H A cl fp => pts_nilD) (fun s H A cl fp => (pd_callB cs_max (call_maxA rfl) rfl g.b_max PyProof.Rows.boot_max (pa_consD pd_int (pa_consD (pd_sub (pv rfl rfl) (pd_mul (pv rfl rfl) (pd_callB cs_min (call_minA rfl) rfl g.b_min PyProof.Rows.boot_min (pa_consD (pv rfl rfl) (pa_consD (pd_sub (pv rfl rfl) (pv rfl rfl)) pa_nilD))))) pa_nilD))))) (pss_consD (ps_ifD (pt_ne rfl hr.units (pd_call (dts := []) rfl (ok_law_told g) (hr.mono (by decide)) rfl g.g__law_told g.F_law_told.kp (b_law_told g) .nil (fun _ _ => rts_nil) (passes_call (takes_of rfl rfl rfl rfl) (fun _ _ _ _ h => h)) (pa_consD (pv rfl rfl) (pa_consD (pd_lst (pa_consD (pv rfl rfl) (pa_consD (pd_tup (pa_consD pd_str (pa_consD pd_str (pa_consD (pd_dict (fs := [((eC (.str "f")), (eC (.int 1)))]) (pps_cons pd_str pd_int pps_nil)) pa_nilD)))) pa_nilD))) (pa_consD (pv rfl rfl) (pa_consD (pv rfl rfl) pa_nilD))))) (pv rfl rfl)) (pss_oneD (ps_retD pd_bl)) pss_nilD) (pss_consD (ps_setLcD (own := [("_law_k", 10)]) (i := 9) rfl sc.nd rfl rfl (sw_true rfl rfl rfl (by kernel_rfl)) (pi_anyD rfl (pv rfl rfl)) (kgc_name (by decide)) (blkOk_by (by kernel_rfl)) (fun s H A cl fp => (pg_n sc.nd rfl rfl)) (fun s H A cl fp => pts_nilD) (fun s H A cl fp => (pd_callB cs_min (call_minA rfl) rfl g.b_min PyProof.Rows.boot_min (pa_consD pd_int (pa_consD (pd_sub (pd_mul (pv rfl rfl) (pd_callB cs_min (call_minA rfl) rfl g.b_min PyProof.Rows.boot_min (pa_consD (pv rfl rfl) (pa_consD (pd_sub (pv rfl rfl) (pv rfl rfl)) pa_nilD)))) (pv rfl rfl)) pa_nilD))))) (pss_consD (ps_ifD (pt_ne rfl hr.units (pd_call (dts := []) rfl (ok_law_told g) (hr.mono (by decide)) rfl g.g__law_told g.F_law_told.kp (b_law_told g) .nil (fun _ _ => rts_nil) (passes_call (takes_of rfl rfl rfl rfl) (fun _ _ _ _ h => h)) (pa_consD (pv rfl rfl) (pa_consD (pd_lst (pa_consD (pv rfl rfl) (pa_consD (pd_tup (pa_consD pd_str (pa_consD pd_str (pa_consD (pd_dict (fs := [((eC (.str "f")), (eNeg (eC (.int 1))))]) (pps_cons pd_str (pd_neg pd_int) pps_nil)) pa_nilD)))) pa_nilD))) (pa_consD (pv rfl rfl) (pa_consD (pv rfl rfl) pa_nilD))))) (pv rfl rfl)) (pss_oneD (ps_retD pd_bl)) pss_nilD) (pss_consD (ps_setD sc.nd rfl (loc_by rfl) (pd_call (dts := []) rfl (ok_law_take g) (hr.mono (by decide)) rfl g.g__law_take g.F_law_take.kp (b_law_take g) .nil (fun _ _ => rts_nil) (passes_call (takes_of rfl rfl rfl rfl) (fun _ _ _ _ h => h)) (pa_consD (pv rfl rfl) (pa_consD (pd_add rfl (pv rfl rfl) pd_int) pa_nilD)))) (pss_consD (ps_setLcD (own := [("_law_k", 10)]) (i := 9) rfl sc.nd rfl rfl (sw_true rfl rfl rfl (by kernel_rfl)) (pi_anyD rfl (pv rfl rfl)) (kgc_name (by decide)) (blkOk_by (by kernel_rfl)) (fun s H A cl fp => (pg_n sc.nd rfl rfl)) (fun s H A cl fp => pts_nilD) (fun s H A cl fp => (pd_if (pt_le (pv rfl rfl) (pv rfl rfl)) (pd_callB cs_max (call_maxA rfl) rfl g.b_max PyProof.Rows.boot_max (pa_consD pd_int (pa_consD (pd_sub (pv rfl rfl) (pd_mul (pv rfl rfl) (pv rfl rfl))) pa_nilD))) pd_int))) (pss_consD (ps_ifD (pt_ne rfl hr.units (pd_call (dts := []) rfl (ok_law_told g) (hr.mono (by decide)) rfl g.g__law_told g.F_law_told.kp (b_law_told g) .nil (fun _ _ => rts_nil) (passes_call (takes_of rfl rfl rfl rfl) (fun _ _ _ _ h => h)) (pa_consD (pv rfl rfl) (pa_consD (pd_lst (pa_consD (pd_tup (pa_consD pd_str (pa_consD (pv rfl rfl) pa_nilD))) (pa_consD (pv rfl rfl) pa_nilD))) (pa_consD (pv rfl rfl) (pa_consD (pv rfl rfl) pa_nilD))))) (pv rfl rfl)) (pss_oneD (ps_retD pd_bl)) pss_nilD) (pss_consD (ps_setLcD (own := [("_law_k", 10)]) (i := 9) rfl sc.nd rfl rfl (sw_true rfl rfl rfl (by kernel_rfl)) (pi_anyD rfl (pv rfl rfl)) (kgc_name (by decide)) (blkOk_by (by kernel_rfl)) (fun s H A cl fp => (pg_n sc.nd rfl rfl)) (fun s H A cl fp => pts_nilD) (fun s H A cl fp => (pd_if (pt_ge (pv rfl rfl) (pv rfl rfl)) (pd_callB cs_max (call_maxA rfl) rfl g.b_max PyProof.Rows.boot_max (pa_consD pd_int (pa_consD (pd_sub (pv rfl rfl) (pd_mul (pv rfl rfl) (pd_sub (pv rfl rfl) (pv rfl rfl)))) pa_nilD))) pd_int))) (pss_consD (ps_ifD (pt_ne rfl hr.units (pd_call (dts := []) rfl (ok_law_told g) (hr.mono (by decide)) rfl g.g__law_told g.F_law_told.kp (b_law_told g) .nil (fun _ _ => rts_nil) (passes_call (takes_of rfl rfl rfl rfl) (fun _ _ _ _ h => h)) (pa_consD (pv rfl rfl) (pa_consD (pd_lst (pa_consD (pd_tup (pa_consD pd_str (pa_consD (pv rfl rfl) pa_nilD))) (pa_consD (pd_tup (pa_consD pd_str (pa_consD pd_str (pa_consD (pd_dict (fs := [((eC (.str "f")), (eC (.int 1)))]) (pps_cons pd_str pd_int pps_nil)) pa_nilD)))) pa_nilD))) (pa_consD (pv rfl rfl) (pa_consD (pv rfl rfl) pa_nilD))))) (pv rfl rfl)) (pss_oneD (ps_retD pd_bl)) pss_nilD) (pss_consD (ps_setLcD (own := [("_law_k", 10)]) (i := 9) rfl sc.nd rfl rfl (sw_true rfl rfl rfl (by kernel_rfl)) (pi_anyD rfl (pv rfl rfl)) (kgc_name (by decide)) (blkOk_by (by kernel_rfl)) (fun s H A cl fp => (pg_n sc.nd rfl rfl)) (fun s H A cl fp => pts_nilD) (fun s H A cl fp => (pd_callB cs_max (call_maxA rfl) rfl g.b_max PyProof.Rows.boot_max (pa_consD pd_int (pa_consD (pd_sub (pv rfl rfl) (pd_mul (pv rfl rfl) (pv rfl rfl))) pa_nilD))))) (pss_consD (ps_setLcD (own := [("_law_k", 10), ("_law_one", 11)]) (i := 9) rfl sc.nd rfl rfl (sw_true rfl rfl rfl (by kernel_rfl)) (pi_enumD rfl rfl g.b_enumerate (pa_consD (pv rfl rfl) pa_nilD)) (kgc_tup (by decide)) (blkOk_by (by kernel_rfl)) (fun s H A cl fp => (pg_tup rfl (pgs_cons (pg_n sc.nd rfl rfl) (pgs_cons (pg_n sc.nd rfl rfl) pgs_nil)))) (fun s H A cl fp => pts_nilD) (fun s H A cl fp => (pd_if (pt_le (pv rfl rfl) (pv rfl rfl)) (pd_callB cs_min (call_minA rfl) rfl g.b_min PyProof.Rows.boot_min (pa_consD (pv rfl rfl) (pa_consD (pd_mul (pv rfl rfl) (pv rfl rfl)) pa_nilD))) (pv rfl rfl)))) (pss_consD (ps_ifD (pt_ne rfl hr.units (pd_call (dts := []) rfl (ok_law_told g) (hr.mono (by decide)) rfl g.g__law_told g.F_law_told.kp (b_law_told g) .nil (fun _ _ => rts_nil) (passes_call (takes_of rfl rfl rfl rfl) (fun _ _ _ _ h => h)) (pa_consD (pv rfl rfl) (pa_consD (pd_lst (pa_consD (pv rfl rfl) (pa_consD (pd_tup (pa_consD pd_str (pa_consD (pv rfl rfl) pa_nilD))) (pa_consD (pd_tup (pa_consD pd_str (pa_consD pd_str (pa_consD pd_dict0 pa_nilD)))) pa_nilD)))) (pa_consD (pv rfl rfl) (pa_consD (pv rfl rfl) pa_nilD))))) (pv rfl rfl)) (pss_oneD (ps_retD pd_bl)) pss_nilD) (pss_consD (ps_setLcD (own := [("_law_k", 10)]) (i := 13) rfl sc.nd rfl rfl (sw_true rfl rfl rfl (by kernel_rfl)) (pi_anyD rfl (pv rfl rfl)) (kgc_name (by decide)) (blkOk_by (by kernel_rfl)) (fun s H A cl fp => (pg_n sc.nd rfl rfl)) (fun s H A cl fp => pts_nilD) (fun s H A cl fp => (pd_sub (pd_mul pd_int (pv rfl rfl)) (pd_mul (pv rfl rfl) (pv rfl rfl))))) (pss_oneD (ps_ifD (pt_ne rfl hr.units (pd_call (dts := []) rfl (ok_law_told g) (hr.mono (by decide)) rfl g.g__law_told g.F_law_told.kp (b_law_told g) .nil (fun _ _ => rts_nil) (passes_call (takes_of rfl rfl rfl rfl) (fun _ _ _ _ h => h)) (pa_consD (pv rfl rfl) (pa_consD (pd_lst (pa_consD (pv rfl rfl) (pa_consD (pd_tup (pa_consD pd_str (pa_consD pd_str (pa_consD (pd_dict (fs := [((eC (.str "f")), (eC (.int 2)))]) (pps_cons pd_str pd_int pps_nil)) pa_nilD)))) (pa_consD (pv rfl rfl) pa_nilD)))) (pa_consD (pv rfl rfl) (pa_consD (pv rfl rfl) pa_nilD))))) (pd_lc (own := [("_law_one", 11)]) rfl sc.nd (pi_anyD rfl (pv rfl rfl)) (kgc_name (by decide)) (blkOk_by (by kernel_rfl)) (fun s H A cl fp => (pg_n sc.nd rfl rfl)) (fun s H A cl fp => pts_nilD) (fun s H A cl fp => (pd_callB cs_max (call_maxA rfl) rfl g.b_max PyProof.Rows.boot_max (pa_consD pd_int (pa_consD (pv rfl rfl) pa_nilD)))))) (pss_oneD (ps_retD pd_bl)) pss_nilD))))))))))))))))))))))))) (pss_oneD (ps_retD pd_bl))))
end
end K12
namespace K12
open PySem L2 LL
def wT : T := .ins 0 [("own_grips", .tup [.str "g"]), ("own_forces", .tup [.str "f"]), ("own_names", .tup [.str "f", .str "g"]), ("own_facts", .lst [])]
def pT (g t : Int) : T := .dct [(.inr "g", .int g), (.inr "f", .int t)]
theorem arep (g t : Int) : m_are_powers [.t wT, .t (pT g t)] [] = .ok (.t (.bl ([decide ((0 : Int) ≤ [1 * g].sum)].all id))) [] := by kernel_rfl
theorem sSeq_of {f g : FS} {ρ ρ' : List D} {M M' : Mem} (h : f ρ M = .nx ρ' M') : sSeq f g ρ M = g ρ' M' := sSeq_nx h
theorem need (g t : Int) (h : 0 ≤ g) : m_need_powers [.t wT, .t (pT g t)] [] = .ok (.t .non) [] := by
  have e : m_are_powers [.t wT, .t (pT g t)] [] = .ok (.t (.bl true)) [] := by
    rw [arep]; simp [h]
  simp [m_need_powers, s_need_powers, s_need_powers_0, runB, sIf, fNot, asT, eFn, aCons, aNil, eVar, callK, R.bind, R.bindS, e, sNx, finX, D.sh, backM, D.below]
  rfl
def lT (n : Nat) : T := .ins 1 [("own_world", wT), ("own_eyes", .tup (List.replicate n (.str "g"))), ("own_rest", .dct [])]
def sT (n : Nat) (ds : List T) (tied : List Int) : T := .ins 2 [("own_lace", lT n), ("own_deeds", .lst ds), ("own_tied", .tup (tied.map .int))]
inductive Act where
  | mv (tug left : Bool) (c : List Int)
  | tie (k : Int)
def aT : Act → T
  | .mv u l c => .tup [.str (if u = true then "tug" else "let"), .str (if l = true then "left" else "right"), .dct (c.map fun k => (.inr "f", .int k))]
  | .tie k => .tup [.str "tie", .int k]
def reach (n : Nat) (tied : List Int) (l : Bool) : List Int := if l = true then rgT 0 (minI (tied ++ [(n : Int)]) + 1) else rgT (maxI (tied ++ [0])) ((n : Int) + 1)
def wayN (n : Nat) (l : Bool) (s : Int) : Int := if l = true then s else (n : Int) - s
def wayV (n : Nat) (l : Bool) (g s : Int) : Int := if wayN n l s = 0 then 0 else [wayN n l s * g].sum
def putI (xs : List Int) (i v : Int) : List Int := xs.set i.toNat v
def getI (xs : List Int) (i : Int) : Int := xs.getD i.toNat 0
def stepS (n : Nat) (g fo : Int) (u l : Bool) : List Int → List Int → List Int
  | [], fd => fd
  | s :: r, fd => stepS n g fo u l r (putI fd s (if u = true then (if fo - wayV n l g s > getI fd s then fo - wayV n l g s else getI fd s) else (if fo + wayV n l g s < getI fd s then fo + wayV n l g s else getI fd s)))
def plS (n : Nat) (g t : Int) : List Act → List Int → List Int → List Int
  | [], _, fd => fd
  | .tie k :: r, tied, fd => plS n g t r (tied ++ [k]) fd
  | .mv u l c :: r, tied, fd => plS n g t r tied (stepS n g (c.map (· * t)).sum u l (reach n tied l) fd)
def pl (n : Nat) (g t : Int) (as : List Act) : List Int := plS n g t as [] (List.replicate (n + 1) 0)
def tiedOf : List Act → List Int
  | [] => []
  | .tie k :: r => k :: tiedOf r
  | _ :: r => tiedOf r

def ρ0 (n : Nat) (ds : List T) (td : List Int) (g t : Int) : List D := [.t (sT n ds td), .t (pT g t), .und, .und, .und, .und, .und, .und, .und, .und]
theorem pulls0 (n : Nat) (ds : List T) (td : List Int) (g t : Int) : s_pulls_0 (ρ0 n ds td g t) [] = .nx (ρ0 n ds td g t) [] := by kernel_rfl
theorem pulls1 (n : Nat) (ds : List T) (td : List Int) (g t : Int) (h : 0 ≤ g) : s_pulls_1 (ρ0 n ds td g t) [] = .nx (ρ0 n ds td g t) [] := by
  have e := need g t h
  unfold s_pulls_1 sExpr eFn
  rw [show (aCons (eFld 1 "own_world" (eFld 2 "own_lace" (eVar 0))) (aCons (eVar 1) aNil)) (ρ0 n ds td g t) [] = .ok [.t wT, .t (pT g t)] [] from by kernel_rfl]
  simp only [R.bind, List.map_nil, List.append_nil]
  rw [callK0 (n := 2) e rfl rfl]
  rfl
theorem pulls_of {n : Nat} {ds : List T} {td : List Int} {g t : Int} (h : 0 ≤ g) {x : T} (e : finX 0 (endB (t_pulls_2 (ρ0 n ds td g t) [])) = .ok (.t x) []) : m_pulls [.t (sT n ds td), .t (pT g t)] [] = .ok (.t x) [] := by
  have e1 : s_pulls (ρ0 n ds td g t) [] = t_pulls_2 (ρ0 n ds td g t) [] := by
    unfold s_pulls t_pulls_0
    rw [sSeq_of (pulls0 n ds td g t)]
    unfold t_pulls_1
    rw [sSeq_of (pulls1 n ds td g t h)]
  have e2 : m_pulls [.t (sT n ds td), .t (pT g t)] [] = finX 0 (endB (s_pulls (ρ0 n ds td g t) [])) := by
    unfold m_pulls; rw [runB_eq]; rfl
  rw [e2, e1]
  exact e
theorem told_of {n : Nat} {as : List Act} {g t : Int} (h : 0 ≤ g) {x : T}
    (e0 : aCons (eMake 3 2 m_State_init [] (aCons (eMake 4 1 m_Lace_init [] (aCons (eVar 4) (aCons (eOp dMul (eLst (aCons (eC (.str "g")) aNil)) (eVar 0)) (aCons (eC (.dct [])) aNil)))) (aCons (eVar 1) aNil))) (aCons (eDict [((eC (.str "g")), (eVar 2)), ((eC (.str "f")), (eVar 3))]) aNil) [.t (.int n), .t (.lst (as.map aT)), .t (.int g), .t (.int t), .t wT] [] = .ok [.t (sT n (as.map aT) (tiedOf as)), .t (pT g t)] [])
    (e : finX 0 (endB (t_pulls_2 (ρ0 n (as.map aT) (tiedOf as) g t) [])) = .ok (.t x) []) : m_law_told [.t (.int n), .t (.lst (as.map aT)), .t (.int g), .t (.int t)] [] = .ok (.t x) [] := by
  have e2 := pulls_of h e
  have e3 : s_law_told [.t (.int n), .t (.lst (as.map aT)), .t (.int g), .t (.int t), .und] [] = .ret (.t x) [] := by
    unfold s_law_told t_law_told_0
    rw [sSeq_of (ρ' := [.t (.int n), .t (.lst (as.map aT)), .t (.int g), .t (.int t), .t wT]) (M' := []) (by kernel_rfl)]
    unfold s_law_told_1 sRet eFn
    rw [e0]
    simp only [R.bind, List.map_nil, List.append_nil]
    rw [callK0 (n := 2) e2 rfl rfl]
    rfl
  have e4 : m_law_told [.t (.int n), .t (.lst (as.map aT)), .t (.int g), .t (.int t)] [] = finX 0 (endB (s_law_told [.t (.int n), .t (.lst (as.map aT)), .t (.int g), .t (.int t), .und] [])) := by
    unfold m_law_told; rw [runB_eq]; rfl
  rw [e4, e3]
  rfl
end K12
namespace K12
open PySem L2 LL
abbrev A1 : List Act := [.mv true true [1]]
abbrev A2 : List Act := [.mv true false [1]]
abbrev A3 : List Act := [.mv false true [-1]]
abbrev A4 : List Act := [.mv true true [1], .mv false true []]
abbrev A5 : List Act := [.mv true true [1], .mv true false [1]]
abbrev A6 : List Act := [.mv false true [-1], .mv false false [-1]]
abbrev A7 (k : Int) : List Act := [.tie k, .mv true true [1]]
abbrev A8 (k : Int) : List Act := [.tie k, .mv true false [1]]
abbrev A9 (k : Int) : List Act := [.mv true true [1], .tie k, .mv false true []]
abbrev A10 : List Act := [.mv true true [1], .mv true true [2], .mv true true [1]]
def Told (n : Nat) (g t : Int) (as : List Act) : Prop := m_law_told [.t (.int n), .t (.lst (as.map aT)), .t (.int g), .t (.int t)] [] = .ok (.t (.lst ((pl n g t as).map .int))) []
variable {g t : Int}
theorem td1_1 (h : 0 ≤ g) : Told 1 g t A1 := told_of h (by kernel_rfl) (by kernel_rfl)
theorem td1_2 (h : 0 ≤ g) : Told 2 g t A1 := told_of h (by kernel_rfl) (by kernel_rfl)
theorem td1_3 (h : 0 ≤ g) : Told 3 g t A1 := told_of h (by kernel_rfl) (by kernel_rfl)
theorem td1_4 (h : 0 ≤ g) : Told 4 g t A1 := told_of h (by kernel_rfl) (by kernel_rfl)
theorem td1_5 (h : 0 ≤ g) : Told 5 g t A1 := told_of h (by kernel_rfl) (by kernel_rfl)
theorem td1 (h : 0 ≤ g) : ∀ n : Nat, 1 ≤ n → n ≤ 5 → Told n g t A1
  | 1, _, _ => td1_1 h
  | 2, _, _ => td1_2 h
  | 3, _, _ => td1_3 h
  | 4, _, _ => td1_4 h
  | 5, _, _ => td1_5 h
  | n + 6, _, z => absurd z (by omega)
theorem td2_1 (h : 0 ≤ g) : Told 1 g t A2 := told_of h (by kernel_rfl) (by kernel_rfl)
theorem td2_2 (h : 0 ≤ g) : Told 2 g t A2 := told_of h (by kernel_rfl) (by kernel_rfl)
theorem td2_3 (h : 0 ≤ g) : Told 3 g t A2 := told_of h (by kernel_rfl) (by kernel_rfl)
theorem td2_4 (h : 0 ≤ g) : Told 4 g t A2 := told_of h (by kernel_rfl) (by kernel_rfl)
theorem td2_5 (h : 0 ≤ g) : Told 5 g t A2 := told_of h (by kernel_rfl) (by kernel_rfl)
theorem td2 (h : 0 ≤ g) : ∀ n : Nat, 1 ≤ n → n ≤ 5 → Told n g t A2
  | 1, _, _ => td2_1 h
  | 2, _, _ => td2_2 h
  | 3, _, _ => td2_3 h
  | 4, _, _ => td2_4 h
  | 5, _, _ => td2_5 h
  | n + 6, _, z => absurd z (by omega)
theorem td3_1 (h : 0 ≤ g) : Told 1 g t A3 := told_of h (by kernel_rfl) (by kernel_rfl)
theorem td3_2 (h : 0 ≤ g) : Told 2 g t A3 := told_of h (by kernel_rfl) (by kernel_rfl)
theorem td3_3 (h : 0 ≤ g) : Told 3 g t A3 := told_of h (by kernel_rfl) (by kernel_rfl)
theorem td3_4 (h : 0 ≤ g) : Told 4 g t A3 := told_of h (by kernel_rfl) (by kernel_rfl)
theorem td3_5 (h : 0 ≤ g) : Told 5 g t A3 := told_of h (by kernel_rfl) (by kernel_rfl)
theorem td3 (h : 0 ≤ g) : ∀ n : Nat, 1 ≤ n → n ≤ 5 → Told n g t A3
  | 1, _, _ => td3_1 h
  | 2, _, _ => td3_2 h
  | 3, _, _ => td3_3 h
  | 4, _, _ => td3_4 h
  | 5, _, _ => td3_5 h
  | n + 6, _, z => absurd z (by omega)
theorem td4_1 (h : 0 ≤ g) : Told 1 g t A4 := told_of h (by kernel_rfl) (by kernel_rfl)
theorem td4_2 (h : 0 ≤ g) : Told 2 g t A4 := told_of h (by kernel_rfl) (by kernel_rfl)
theorem td4_3 (h : 0 ≤ g) : Told 3 g t A4 := told_of h (by kernel_rfl) (by kernel_rfl)
theorem td4_4 (h : 0 ≤ g) : Told 4 g t A4 := told_of h (by kernel_rfl) (by kernel_rfl)
theorem td4_5 (h : 0 ≤ g) : Told 5 g t A4 := told_of h (by kernel_rfl) (by kernel_rfl)
theorem td4 (h : 0 ≤ g) : ∀ n : Nat, 1 ≤ n → n ≤ 5 → Told n g t A4
  | 1, _, _ => td4_1 h
  | 2, _, _ => td4_2 h
  | 3, _, _ => td4_3 h
  | 4, _, _ => td4_4 h
  | 5, _, _ => td4_5 h
  | n + 6, _, z => absurd z (by omega)
theorem td5_1 (h : 0 ≤ g) : Told 1 g t A5 := told_of h (by kernel_rfl) (by kernel_rfl)
theorem td5_2 (h : 0 ≤ g) : Told 2 g t A5 := told_of h (by kernel_rfl) (by kernel_rfl)
theorem td5_3 (h : 0 ≤ g) : Told 3 g t A5 := told_of h (by kernel_rfl) (by kernel_rfl)
theorem td5_4 (h : 0 ≤ g) : Told 4 g t A5 := told_of h (by kernel_rfl) (by kernel_rfl)
theorem td5_5 (h : 0 ≤ g) : Told 5 g t A5 := told_of h (by kernel_rfl) (by kernel_rfl)
theorem td5 (h : 0 ≤ g) : ∀ n : Nat, 1 ≤ n → n ≤ 5 → Told n g t A5
  | 1, _, _ => td5_1 h
  | 2, _, _ => td5_2 h
  | 3, _, _ => td5_3 h
  | 4, _, _ => td5_4 h
  | 5, _, _ => td5_5 h
  | n + 6, _, z => absurd z (by omega)
theorem td6_1 (h : 0 ≤ g) : Told 1 g t A6 := told_of h (by kernel_rfl) (by kernel_rfl)
theorem td6_2 (h : 0 ≤ g) : Told 2 g t A6 := told_of h (by kernel_rfl) (by kernel_rfl)
theorem td6_3 (h : 0 ≤ g) : Told 3 g t A6 := told_of h (by kernel_rfl) (by kernel_rfl)
theorem td6_4 (h : 0 ≤ g) : Told 4 g t A6 := told_of h (by kernel_rfl) (by kernel_rfl)
theorem td6_5 (h : 0 ≤ g) : Told 5 g t A6 := told_of h (by kernel_rfl) (by kernel_rfl)
theorem td6 (h : 0 ≤ g) : ∀ n : Nat, 1 ≤ n → n ≤ 5 → Told n g t A6
  | 1, _, _ => td6_1 h
  | 2, _, _ => td6_2 h
  | 3, _, _ => td6_3 h
  | 4, _, _ => td6_4 h
  | 5, _, _ => td6_5 h
  | n + 6, _, z => absurd z (by omega)
theorem td10_1 (h : 0 ≤ g) : Told 1 g t A10 := told_of h (by kernel_rfl) (by kernel_rfl)
theorem td10_2 (h : 0 ≤ g) : Told 2 g t A10 := told_of h (by kernel_rfl) (by kernel_rfl)
theorem td10_3 (h : 0 ≤ g) : Told 3 g t A10 := told_of h (by kernel_rfl) (by kernel_rfl)
theorem td10_4 (h : 0 ≤ g) : Told 4 g t A10 := told_of h (by kernel_rfl) (by kernel_rfl)
theorem td10_5 (h : 0 ≤ g) : Told 5 g t A10 := told_of h (by kernel_rfl) (by kernel_rfl)
theorem td10 (h : 0 ≤ g) : ∀ n : Nat, 1 ≤ n → n ≤ 5 → Told n g t A10
  | 1, _, _ => td10_1 h
  | 2, _, _ => td10_2 h
  | 3, _, _ => td10_3 h
  | 4, _, _ => td10_4 h
  | 5, _, _ => td10_5 h
  | n + 6, _, z => absurd z (by omega)
theorem td7_1_0 (h : 0 ≤ g) : Told 1 g t (A7 ((0 : Nat) : Int)) := told_of h (by kernel_rfl) (by kernel_rfl)
theorem td7_1_1 (h : 0 ≤ g) : Told 1 g t (A7 ((1 : Nat) : Int)) := told_of h (by kernel_rfl) (by kernel_rfl)
theorem td7_2_0 (h : 0 ≤ g) : Told 2 g t (A7 ((0 : Nat) : Int)) := told_of h (by kernel_rfl) (by kernel_rfl)
theorem td7_2_1 (h : 0 ≤ g) : Told 2 g t (A7 ((1 : Nat) : Int)) := told_of h (by kernel_rfl) (by kernel_rfl)
theorem td7_2_2 (h : 0 ≤ g) : Told 2 g t (A7 ((2 : Nat) : Int)) := told_of h (by kernel_rfl) (by kernel_rfl)
theorem td7_3_0 (h : 0 ≤ g) : Told 3 g t (A7 ((0 : Nat) : Int)) := told_of h (by kernel_rfl) (by kernel_rfl)
theorem td7_3_1 (h : 0 ≤ g) : Told 3 g t (A7 ((1 : Nat) : Int)) := told_of h (by kernel_rfl) (by kernel_rfl)
theorem td7_3_2 (h : 0 ≤ g) : Told 3 g t (A7 ((2 : Nat) : Int)) := told_of h (by kernel_rfl) (by kernel_rfl)
theorem td7_3_3 (h : 0 ≤ g) : Told 3 g t (A7 ((3 : Nat) : Int)) := told_of h (by kernel_rfl) (by kernel_rfl)
theorem td7_4_0 (h : 0 ≤ g) : Told 4 g t (A7 ((0 : Nat) : Int)) := told_of h (by kernel_rfl) (by kernel_rfl)
theorem td7_4_1 (h : 0 ≤ g) : Told 4 g t (A7 ((1 : Nat) : Int)) := told_of h (by kernel_rfl) (by kernel_rfl)
theorem td7_4_2 (h : 0 ≤ g) : Told 4 g t (A7 ((2 : Nat) : Int)) := told_of h (by kernel_rfl) (by kernel_rfl)
theorem td7_4_3 (h : 0 ≤ g) : Told 4 g t (A7 ((3 : Nat) : Int)) := told_of h (by kernel_rfl) (by kernel_rfl)
theorem td7_4_4 (h : 0 ≤ g) : Told 4 g t (A7 ((4 : Nat) : Int)) := told_of h (by kernel_rfl) (by kernel_rfl)
theorem td7_5_0 (h : 0 ≤ g) : Told 5 g t (A7 ((0 : Nat) : Int)) := told_of h (by kernel_rfl) (by kernel_rfl)
theorem td7_5_1 (h : 0 ≤ g) : Told 5 g t (A7 ((1 : Nat) : Int)) := told_of h (by kernel_rfl) (by kernel_rfl)
theorem td7_5_2 (h : 0 ≤ g) : Told 5 g t (A7 ((2 : Nat) : Int)) := told_of h (by kernel_rfl) (by kernel_rfl)
theorem td7_5_3 (h : 0 ≤ g) : Told 5 g t (A7 ((3 : Nat) : Int)) := told_of h (by kernel_rfl) (by kernel_rfl)
theorem td7_5_4 (h : 0 ≤ g) : Told 5 g t (A7 ((4 : Nat) : Int)) := told_of h (by kernel_rfl) (by kernel_rfl)
theorem td7_5_5 (h : 0 ≤ g) : Told 5 g t (A7 ((5 : Nat) : Int)) := told_of h (by kernel_rfl) (by kernel_rfl)
theorem td7 (h : 0 ≤ g) : ∀ n k : Nat, 1 ≤ n → n ≤ 5 → k ≤ n → Told n g t (A7 k)
  | 1, 0, _, _, _ => td7_1_0 h
  | 1, 1, _, _, _ => td7_1_1 h
  | 1, k + 2, _, _, z => absurd z (by omega)
  | 2, 0, _, _, _ => td7_2_0 h
  | 2, 1, _, _, _ => td7_2_1 h
  | 2, 2, _, _, _ => td7_2_2 h
  | 2, k + 3, _, _, z => absurd z (by omega)
  | 3, 0, _, _, _ => td7_3_0 h
  | 3, 1, _, _, _ => td7_3_1 h
  | 3, 2, _, _, _ => td7_3_2 h
  | 3, 3, _, _, _ => td7_3_3 h
  | 3, k + 4, _, _, z => absurd z (by omega)
  | 4, 0, _, _, _ => td7_4_0 h
  | 4, 1, _, _, _ => td7_4_1 h
  | 4, 2, _, _, _ => td7_4_2 h
  | 4, 3, _, _, _ => td7_4_3 h
  | 4, 4, _, _, _ => td7_4_4 h
  | 4, k + 5, _, _, z => absurd z (by omega)
  | 5, 0, _, _, _ => td7_5_0 h
  | 5, 1, _, _, _ => td7_5_1 h
  | 5, 2, _, _, _ => td7_5_2 h
  | 5, 3, _, _, _ => td7_5_3 h
  | 5, 4, _, _, _ => td7_5_4 h
  | 5, 5, _, _, _ => td7_5_5 h
  | 5, k + 6, _, _, z => absurd z (by omega)
  | n + 6, _, _, z, _ => absurd z (by omega)
theorem td8_1_0 (h : 0 ≤ g) : Told 1 g t (A8 ((0 : Nat) : Int)) := told_of h (by kernel_rfl) (by kernel_rfl)
theorem td8_1_1 (h : 0 ≤ g) : Told 1 g t (A8 ((1 : Nat) : Int)) := told_of h (by kernel_rfl) (by kernel_rfl)
theorem td8_2_0 (h : 0 ≤ g) : Told 2 g t (A8 ((0 : Nat) : Int)) := told_of h (by kernel_rfl) (by kernel_rfl)
theorem td8_2_1 (h : 0 ≤ g) : Told 2 g t (A8 ((1 : Nat) : Int)) := told_of h (by kernel_rfl) (by kernel_rfl)
theorem td8_2_2 (h : 0 ≤ g) : Told 2 g t (A8 ((2 : Nat) : Int)) := told_of h (by kernel_rfl) (by kernel_rfl)
theorem td8_3_0 (h : 0 ≤ g) : Told 3 g t (A8 ((0 : Nat) : Int)) := told_of h (by kernel_rfl) (by kernel_rfl)
theorem td8_3_1 (h : 0 ≤ g) : Told 3 g t (A8 ((1 : Nat) : Int)) := told_of h (by kernel_rfl) (by kernel_rfl)
theorem td8_3_2 (h : 0 ≤ g) : Told 3 g t (A8 ((2 : Nat) : Int)) := told_of h (by kernel_rfl) (by kernel_rfl)
theorem td8_3_3 (h : 0 ≤ g) : Told 3 g t (A8 ((3 : Nat) : Int)) := told_of h (by kernel_rfl) (by kernel_rfl)
theorem td8_4_0 (h : 0 ≤ g) : Told 4 g t (A8 ((0 : Nat) : Int)) := told_of h (by kernel_rfl) (by kernel_rfl)
theorem td8_4_1 (h : 0 ≤ g) : Told 4 g t (A8 ((1 : Nat) : Int)) := told_of h (by kernel_rfl) (by kernel_rfl)
theorem td8_4_2 (h : 0 ≤ g) : Told 4 g t (A8 ((2 : Nat) : Int)) := told_of h (by kernel_rfl) (by kernel_rfl)
theorem td8_4_3 (h : 0 ≤ g) : Told 4 g t (A8 ((3 : Nat) : Int)) := told_of h (by kernel_rfl) (by kernel_rfl)
theorem td8_4_4 (h : 0 ≤ g) : Told 4 g t (A8 ((4 : Nat) : Int)) := told_of h (by kernel_rfl) (by kernel_rfl)
theorem td8_5_0 (h : 0 ≤ g) : Told 5 g t (A8 ((0 : Nat) : Int)) := told_of h (by kernel_rfl) (by kernel_rfl)
theorem td8_5_1 (h : 0 ≤ g) : Told 5 g t (A8 ((1 : Nat) : Int)) := told_of h (by kernel_rfl) (by kernel_rfl)
theorem td8_5_2 (h : 0 ≤ g) : Told 5 g t (A8 ((2 : Nat) : Int)) := told_of h (by kernel_rfl) (by kernel_rfl)
theorem td8_5_3 (h : 0 ≤ g) : Told 5 g t (A8 ((3 : Nat) : Int)) := told_of h (by kernel_rfl) (by kernel_rfl)
theorem td8_5_4 (h : 0 ≤ g) : Told 5 g t (A8 ((4 : Nat) : Int)) := told_of h (by kernel_rfl) (by kernel_rfl)
theorem td8_5_5 (h : 0 ≤ g) : Told 5 g t (A8 ((5 : Nat) : Int)) := told_of h (by kernel_rfl) (by kernel_rfl)
theorem td8 (h : 0 ≤ g) : ∀ n k : Nat, 1 ≤ n → n ≤ 5 → k ≤ n → Told n g t (A8 k)
  | 1, 0, _, _, _ => td8_1_0 h
  | 1, 1, _, _, _ => td8_1_1 h
  | 1, k + 2, _, _, z => absurd z (by omega)
  | 2, 0, _, _, _ => td8_2_0 h
  | 2, 1, _, _, _ => td8_2_1 h
  | 2, 2, _, _, _ => td8_2_2 h
  | 2, k + 3, _, _, z => absurd z (by omega)
  | 3, 0, _, _, _ => td8_3_0 h
  | 3, 1, _, _, _ => td8_3_1 h
  | 3, 2, _, _, _ => td8_3_2 h
  | 3, 3, _, _, _ => td8_3_3 h
  | 3, k + 4, _, _, z => absurd z (by omega)
  | 4, 0, _, _, _ => td8_4_0 h
  | 4, 1, _, _, _ => td8_4_1 h
  | 4, 2, _, _, _ => td8_4_2 h
  | 4, 3, _, _, _ => td8_4_3 h
  | 4, 4, _, _, _ => td8_4_4 h
  | 4, k + 5, _, _, z => absurd z (by omega)
  | 5, 0, _, _, _ => td8_5_0 h
  | 5, 1, _, _, _ => td8_5_1 h
  | 5, 2, _, _, _ => td8_5_2 h
  | 5, 3, _, _, _ => td8_5_3 h
  | 5, 4, _, _, _ => td8_5_4 h
  | 5, 5, _, _, _ => td8_5_5 h
  | 5, k + 6, _, _, z => absurd z (by omega)
  | n + 6, _, _, z, _ => absurd z (by omega)
theorem td9_1_0 (h : 0 ≤ g) : Told 1 g t (A9 ((0 : Nat) : Int)) := told_of h (by kernel_rfl) (by kernel_rfl)
theorem td9_1_1 (h : 0 ≤ g) : Told 1 g t (A9 ((1 : Nat) : Int)) := told_of h (by kernel_rfl) (by kernel_rfl)
theorem td9_2_0 (h : 0 ≤ g) : Told 2 g t (A9 ((0 : Nat) : Int)) := told_of h (by kernel_rfl) (by kernel_rfl)
theorem td9_2_1 (h : 0 ≤ g) : Told 2 g t (A9 ((1 : Nat) : Int)) := told_of h (by kernel_rfl) (by kernel_rfl)
theorem td9_2_2 (h : 0 ≤ g) : Told 2 g t (A9 ((2 : Nat) : Int)) := told_of h (by kernel_rfl) (by kernel_rfl)
theorem td9_3_0 (h : 0 ≤ g) : Told 3 g t (A9 ((0 : Nat) : Int)) := told_of h (by kernel_rfl) (by kernel_rfl)
theorem td9_3_1 (h : 0 ≤ g) : Told 3 g t (A9 ((1 : Nat) : Int)) := told_of h (by kernel_rfl) (by kernel_rfl)
theorem td9_3_2 (h : 0 ≤ g) : Told 3 g t (A9 ((2 : Nat) : Int)) := told_of h (by kernel_rfl) (by kernel_rfl)
theorem td9_3_3 (h : 0 ≤ g) : Told 3 g t (A9 ((3 : Nat) : Int)) := told_of h (by kernel_rfl) (by kernel_rfl)
theorem td9_4_0 (h : 0 ≤ g) : Told 4 g t (A9 ((0 : Nat) : Int)) := told_of h (by kernel_rfl) (by kernel_rfl)
theorem td9_4_1 (h : 0 ≤ g) : Told 4 g t (A9 ((1 : Nat) : Int)) := told_of h (by kernel_rfl) (by kernel_rfl)
theorem td9_4_2 (h : 0 ≤ g) : Told 4 g t (A9 ((2 : Nat) : Int)) := told_of h (by kernel_rfl) (by kernel_rfl)
theorem td9_4_3 (h : 0 ≤ g) : Told 4 g t (A9 ((3 : Nat) : Int)) := told_of h (by kernel_rfl) (by kernel_rfl)
theorem td9_4_4 (h : 0 ≤ g) : Told 4 g t (A9 ((4 : Nat) : Int)) := told_of h (by kernel_rfl) (by kernel_rfl)
theorem td9_5_0 (h : 0 ≤ g) : Told 5 g t (A9 ((0 : Nat) : Int)) := told_of h (by kernel_rfl) (by kernel_rfl)
theorem td9_5_1 (h : 0 ≤ g) : Told 5 g t (A9 ((1 : Nat) : Int)) := told_of h (by kernel_rfl) (by kernel_rfl)
theorem td9_5_2 (h : 0 ≤ g) : Told 5 g t (A9 ((2 : Nat) : Int)) := told_of h (by kernel_rfl) (by kernel_rfl)
theorem td9_5_3 (h : 0 ≤ g) : Told 5 g t (A9 ((3 : Nat) : Int)) := told_of h (by kernel_rfl) (by kernel_rfl)
theorem td9_5_4 (h : 0 ≤ g) : Told 5 g t (A9 ((4 : Nat) : Int)) := told_of h (by kernel_rfl) (by kernel_rfl)
theorem td9_5_5 (h : 0 ≤ g) : Told 5 g t (A9 ((5 : Nat) : Int)) := told_of h (by kernel_rfl) (by kernel_rfl)
theorem td9 (h : 0 ≤ g) : ∀ n k : Nat, 1 ≤ n → n ≤ 5 → k ≤ n → Told n g t (A9 k)
  | 1, 0, _, _, _ => td9_1_0 h
  | 1, 1, _, _, _ => td9_1_1 h
  | 1, k + 2, _, _, z => absurd z (by omega)
  | 2, 0, _, _, _ => td9_2_0 h
  | 2, 1, _, _, _ => td9_2_1 h
  | 2, 2, _, _, _ => td9_2_2 h
  | 2, k + 3, _, _, z => absurd z (by omega)
  | 3, 0, _, _, _ => td9_3_0 h
  | 3, 1, _, _, _ => td9_3_1 h
  | 3, 2, _, _, _ => td9_3_2 h
  | 3, 3, _, _, _ => td9_3_3 h
  | 3, k + 4, _, _, z => absurd z (by omega)
  | 4, 0, _, _, _ => td9_4_0 h
  | 4, 1, _, _, _ => td9_4_1 h
  | 4, 2, _, _, _ => td9_4_2 h
  | 4, 3, _, _, _ => td9_4_3 h
  | 4, 4, _, _, _ => td9_4_4 h
  | 4, k + 5, _, _, z => absurd z (by omega)
  | 5, 0, _, _, _ => td9_5_0 h
  | 5, 1, _, _, _ => td9_5_1 h
  | 5, 2, _, _, _ => td9_5_2 h
  | 5, 3, _, _, _ => td9_5_3 h
  | 5, 4, _, _, _ => td9_5_4 h
  | 5, 5, _, _, _ => td9_5_5 h
  | 5, k + 6, _, _, z => absurd z (by omega)
  | n + 6, _, _, z, _ => absurd z (by omega)
end K12
namespace K12
open PySem L2 LL
variable {g t : Int}
def mx (i j : Int) : Int := if j > i then j else i
def mn (i j : Int) : Int := if j < i then j else i
def due1 (g t : Int) (n : Nat) : List Int := (rgT 0 ((n : Int) + 1)).map fun k => mx 0 (t - g * k)
def due4 (g t : Int) (n : Nat) : List Int := (rgT 0 ((n : Int) + 1)).map fun k => mn (mx 0 (t - g * k)) (g * k)
def due5 (g t : Int) (n : Nat) : List Int := (rgT 0 ((n : Int) + 1)).map fun k => mx 0 (t - g * mn k ((n : Int) - k))
def due6 (g t : Int) (n : Nat) : List Int := (rgT 0 ((n : Int) + 1)).map fun k => mn 0 (g * mn k ((n : Int) - k) - t)
def due7 (g t : Int) (n : Nat) (q : Int) : List Int := (rgT 0 ((n : Int) + 1)).map fun k => if k ≤ q then mx 0 (t - g * k) else 0
def due8 (g t : Int) (n : Nat) (q : Int) : List Int := (rgT 0 ((n : Int) + 1)).map fun k => if q ≤ k then mx 0 (t - g * ((n : Int) - k)) else 0
def enumI : Int → List Int → List (Int × Int)
  | _, [] => []
  | n, x :: r => (n, x) :: enumI (n + 1) r
def due9 (g t : Int) (n : Nat) (q : Int) : List Int := (enumI 0 (due1 g t n)).map fun p => if p.1 ≤ q then mn p.2 (g * p.1) else p.2
def due10 (g t : Int) (n : Nat) : List Int := ((rgT 0 ((n : Int) + 1)).map fun k => 2 * t - g * k).map fun x => mx 0 x
theorem pe1_1 (h : 0 ≤ g) (h2 : 0 ≤ t) : pl 1 g t A1 = due1 g t 1 := by
  simp [pl, plS, stepS, reach, rgT, minI, maxI, wayV, wayN, putI, getI, List.range, List.range.loop, due1, mx, mn, enumI]
  all_goals (repeat' (first | omega | (apply And.intro) | split))
theorem pe1_2 (h : 0 ≤ g) (h2 : 0 ≤ t) : pl 2 g t A1 = due1 g t 2 := by
  simp [pl, plS, stepS, reach, rgT, minI, maxI, wayV, wayN, putI, getI, List.range, List.range.loop, due1, mx, mn, enumI]
  all_goals (repeat' (first | omega | (apply And.intro) | split))
theorem pe1_3 (h : 0 ≤ g) (h2 : 0 ≤ t) : pl 3 g t A1 = due1 g t 3 := by
  simp [pl, plS, stepS, reach, rgT, minI, maxI, wayV, wayN, putI, getI, List.range, List.range.loop, due1, mx, mn, enumI]
  all_goals (repeat' (first | omega | (apply And.intro) | split))
theorem pe1_4 (h : 0 ≤ g) (h2 : 0 ≤ t) : pl 4 g t A1 = due1 g t 4 := by
  simp [pl, plS, stepS, reach, rgT, minI, maxI, wayV, wayN, putI, getI, List.range, List.range.loop, due1, mx, mn, enumI]
  all_goals (repeat' (first | omega | (apply And.intro) | split))
theorem pe1_5 (h : 0 ≤ g) (h2 : 0 ≤ t) : pl 5 g t A1 = due1 g t 5 := by
  simp [pl, plS, stepS, reach, rgT, minI, maxI, wayV, wayN, putI, getI, List.range, List.range.loop, due1, mx, mn, enumI]
  all_goals (repeat' (first | omega | (apply And.intro) | split))
theorem pe1 (h : 0 ≤ g) (h2 : 0 ≤ t) : ∀ n : Nat, 1 ≤ n → n ≤ 5 → pl n g t A1 = due1 g t n
  | 1, _, _ => pe1_1 h h2
  | 2, _, _ => pe1_2 h h2
  | 3, _, _ => pe1_3 h h2
  | 4, _, _ => pe1_4 h h2
  | 5, _, _ => pe1_5 h h2
  | n + 6, _, z => absurd z (by omega)
theorem pe2_1 (h : 0 ≤ g) (h2 : 0 ≤ t) : pl 1 g t A2 = (due1 g t 1).reverse := by
  simp [pl, plS, stepS, reach, rgT, minI, maxI, wayV, wayN, putI, getI, List.range, List.range.loop, due1, mx, mn, enumI]
  all_goals (repeat' (first | omega | (apply And.intro) | split))
theorem pe2_2 (h : 0 ≤ g) (h2 : 0 ≤ t) : pl 2 g t A2 = (due1 g t 2).reverse := by
  simp [pl, plS, stepS, reach, rgT, minI, maxI, wayV, wayN, putI, getI, List.range, List.range.loop, due1, mx, mn, enumI]
  all_goals (repeat' (first | omega | (apply And.intro) | split))
theorem pe2_3 (h : 0 ≤ g) (h2 : 0 ≤ t) : pl 3 g t A2 = (due1 g t 3).reverse := by
  simp [pl, plS, stepS, reach, rgT, minI, maxI, wayV, wayN, putI, getI, List.range, List.range.loop, due1, mx, mn, enumI]
  all_goals (repeat' (first | omega | (apply And.intro) | split))
theorem pe2_4 (h : 0 ≤ g) (h2 : 0 ≤ t) : pl 4 g t A2 = (due1 g t 4).reverse := by
  simp [pl, plS, stepS, reach, rgT, minI, maxI, wayV, wayN, putI, getI, List.range, List.range.loop, due1, mx, mn, enumI]
  all_goals (repeat' (first | omega | (apply And.intro) | split))
theorem pe2_5 (h : 0 ≤ g) (h2 : 0 ≤ t) : pl 5 g t A2 = (due1 g t 5).reverse := by
  simp [pl, plS, stepS, reach, rgT, minI, maxI, wayV, wayN, putI, getI, List.range, List.range.loop, due1, mx, mn, enumI]
  all_goals (repeat' (first | omega | (apply And.intro) | split))
theorem pe2 (h : 0 ≤ g) (h2 : 0 ≤ t) : ∀ n : Nat, 1 ≤ n → n ≤ 5 → pl n g t A2 = (due1 g t n).reverse
  | 1, _, _ => pe2_1 h h2
  | 2, _, _ => pe2_2 h h2
  | 3, _, _ => pe2_3 h h2
  | 4, _, _ => pe2_4 h h2
  | 5, _, _ => pe2_5 h h2
  | n + 6, _, z => absurd z (by omega)
theorem pe3_1 (h : 0 ≤ g) (h2 : 0 ≤ t) : pl 1 g t A3 = (due1 g t 1).map fun x => 0 - x := by
  simp [pl, plS, stepS, reach, rgT, minI, maxI, wayV, wayN, putI, getI, List.range, List.range.loop, due1, mx, mn, enumI]
  all_goals (repeat' (first | omega | (apply And.intro) | split))
theorem pe3_2 (h : 0 ≤ g) (h2 : 0 ≤ t) : pl 2 g t A3 = (due1 g t 2).map fun x => 0 - x := by
  simp [pl, plS, stepS, reach, rgT, minI, maxI, wayV, wayN, putI, getI, List.range, List.range.loop, due1, mx, mn, enumI]
  all_goals (repeat' (first | omega | (apply And.intro) | split))
theorem pe3_3 (h : 0 ≤ g) (h2 : 0 ≤ t) : pl 3 g t A3 = (due1 g t 3).map fun x => 0 - x := by
  simp [pl, plS, stepS, reach, rgT, minI, maxI, wayV, wayN, putI, getI, List.range, List.range.loop, due1, mx, mn, enumI]
  all_goals (repeat' (first | omega | (apply And.intro) | split))
theorem pe3_4 (h : 0 ≤ g) (h2 : 0 ≤ t) : pl 4 g t A3 = (due1 g t 4).map fun x => 0 - x := by
  simp [pl, plS, stepS, reach, rgT, minI, maxI, wayV, wayN, putI, getI, List.range, List.range.loop, due1, mx, mn, enumI]
  all_goals (repeat' (first | omega | (apply And.intro) | split))
theorem pe3_5 (h : 0 ≤ g) (h2 : 0 ≤ t) : pl 5 g t A3 = (due1 g t 5).map fun x => 0 - x := by
  simp [pl, plS, stepS, reach, rgT, minI, maxI, wayV, wayN, putI, getI, List.range, List.range.loop, due1, mx, mn, enumI]
  all_goals (repeat' (first | omega | (apply And.intro) | split))
theorem pe3 (h : 0 ≤ g) (h2 : 0 ≤ t) : ∀ n : Nat, 1 ≤ n → n ≤ 5 → pl n g t A3 = (due1 g t n).map fun x => 0 - x
  | 1, _, _ => pe3_1 h h2
  | 2, _, _ => pe3_2 h h2
  | 3, _, _ => pe3_3 h h2
  | 4, _, _ => pe3_4 h h2
  | 5, _, _ => pe3_5 h h2
  | n + 6, _, z => absurd z (by omega)
theorem pe4_1 (h : 0 ≤ g) (h2 : 0 ≤ t) : pl 1 g t A4 = due4 g t 1 := by
  simp [pl, plS, stepS, reach, rgT, minI, maxI, wayV, wayN, putI, getI, List.range, List.range.loop, due4, mx, mn, enumI]
  all_goals (repeat' (first | omega | (apply And.intro) | split))
theorem pe4_2 (h : 0 ≤ g) (h2 : 0 ≤ t) : pl 2 g t A4 = due4 g t 2 := by
  simp [pl, plS, stepS, reach, rgT, minI, maxI, wayV, wayN, putI, getI, List.range, List.range.loop, due4, mx, mn, enumI]
  all_goals (repeat' (first | omega | (apply And.intro) | split))
theorem pe4_3 (h : 0 ≤ g) (h2 : 0 ≤ t) : pl 3 g t A4 = due4 g t 3 := by
  simp [pl, plS, stepS, reach, rgT, minI, maxI, wayV, wayN, putI, getI, List.range, List.range.loop, due4, mx, mn, enumI]
  all_goals (repeat' (first | omega | (apply And.intro) | split))
theorem pe4_4 (h : 0 ≤ g) (h2 : 0 ≤ t) : pl 4 g t A4 = due4 g t 4 := by
  simp [pl, plS, stepS, reach, rgT, minI, maxI, wayV, wayN, putI, getI, List.range, List.range.loop, due4, mx, mn, enumI]
  all_goals (repeat' (first | omega | (apply And.intro) | split))
theorem pe4_5 (h : 0 ≤ g) (h2 : 0 ≤ t) : pl 5 g t A4 = due4 g t 5 := by
  simp [pl, plS, stepS, reach, rgT, minI, maxI, wayV, wayN, putI, getI, List.range, List.range.loop, due4, mx, mn, enumI]
  all_goals (repeat' (first | omega | (apply And.intro) | split))
theorem pe4 (h : 0 ≤ g) (h2 : 0 ≤ t) : ∀ n : Nat, 1 ≤ n → n ≤ 5 → pl n g t A4 = due4 g t n
  | 1, _, _ => pe4_1 h h2
  | 2, _, _ => pe4_2 h h2
  | 3, _, _ => pe4_3 h h2
  | 4, _, _ => pe4_4 h h2
  | 5, _, _ => pe4_5 h h2
  | n + 6, _, z => absurd z (by omega)
theorem pe5_1 (h : 0 ≤ g) (h2 : 0 ≤ t) : pl 1 g t A5 = due5 g t 1 := by
  simp [pl, plS, stepS, reach, rgT, minI, maxI, wayV, wayN, putI, getI, List.range, List.range.loop, due5, mx, mn, enumI]
  all_goals (repeat' (first | omega | (apply And.intro) | split))
theorem pe5_2 (h : 0 ≤ g) (h2 : 0 ≤ t) : pl 2 g t A5 = due5 g t 2 := by
  simp [pl, plS, stepS, reach, rgT, minI, maxI, wayV, wayN, putI, getI, List.range, List.range.loop, due5, mx, mn, enumI]
  all_goals (repeat' (first | omega | (apply And.intro) | split))
theorem pe5_3 (h : 0 ≤ g) (h2 : 0 ≤ t) : pl 3 g t A5 = due5 g t 3 := by
  simp [pl, plS, stepS, reach, rgT, minI, maxI, wayV, wayN, putI, getI, List.range, List.range.loop, due5, mx, mn, enumI]
  all_goals (repeat' (first | omega | (apply And.intro) | split))
theorem pe5_4 (h : 0 ≤ g) (h2 : 0 ≤ t) : pl 4 g t A5 = due5 g t 4 := by
  simp [pl, plS, stepS, reach, rgT, minI, maxI, wayV, wayN, putI, getI, List.range, List.range.loop, due5, mx, mn, enumI]
  all_goals (repeat' (first | omega | (apply And.intro) | split))
theorem pe5_5 (h : 0 ≤ g) (h2 : 0 ≤ t) : pl 5 g t A5 = due5 g t 5 := by
  simp [pl, plS, stepS, reach, rgT, minI, maxI, wayV, wayN, putI, getI, List.range, List.range.loop, due5, mx, mn, enumI]
  all_goals (repeat' (first | omega | (apply And.intro) | split))
theorem pe5 (h : 0 ≤ g) (h2 : 0 ≤ t) : ∀ n : Nat, 1 ≤ n → n ≤ 5 → pl n g t A5 = due5 g t n
  | 1, _, _ => pe5_1 h h2
  | 2, _, _ => pe5_2 h h2
  | 3, _, _ => pe5_3 h h2
  | 4, _, _ => pe5_4 h h2
  | 5, _, _ => pe5_5 h h2
  | n + 6, _, z => absurd z (by omega)
theorem pe6_1 (h : 0 ≤ g) (h2 : 0 ≤ t) : pl 1 g t A6 = due6 g t 1 := by
  simp [pl, plS, stepS, reach, rgT, minI, maxI, wayV, wayN, putI, getI, List.range, List.range.loop, due6, mx, mn, enumI]
  all_goals (repeat' (first | omega | (apply And.intro) | split))
theorem pe6_2 (h : 0 ≤ g) (h2 : 0 ≤ t) : pl 2 g t A6 = due6 g t 2 := by
  simp [pl, plS, stepS, reach, rgT, minI, maxI, wayV, wayN, putI, getI, List.range, List.range.loop, due6, mx, mn, enumI]
  all_goals (repeat' (first | omega | (apply And.intro) | split))
theorem pe6_3 (h : 0 ≤ g) (h2 : 0 ≤ t) : pl 3 g t A6 = due6 g t 3 := by
  simp [pl, plS, stepS, reach, rgT, minI, maxI, wayV, wayN, putI, getI, List.range, List.range.loop, due6, mx, mn, enumI]
  all_goals (repeat' (first | omega | (apply And.intro) | split))
theorem pe6_4 (h : 0 ≤ g) (h2 : 0 ≤ t) : pl 4 g t A6 = due6 g t 4 := by
  simp [pl, plS, stepS, reach, rgT, minI, maxI, wayV, wayN, putI, getI, List.range, List.range.loop, due6, mx, mn, enumI]
  all_goals (repeat' (first | omega | (apply And.intro) | split))
theorem pe6_5 (h : 0 ≤ g) (h2 : 0 ≤ t) : pl 5 g t A6 = due6 g t 5 := by
  simp [pl, plS, stepS, reach, rgT, minI, maxI, wayV, wayN, putI, getI, List.range, List.range.loop, due6, mx, mn, enumI]
  all_goals (repeat' (first | omega | (apply And.intro) | split))
theorem pe6 (h : 0 ≤ g) (h2 : 0 ≤ t) : ∀ n : Nat, 1 ≤ n → n ≤ 5 → pl n g t A6 = due6 g t n
  | 1, _, _ => pe6_1 h h2
  | 2, _, _ => pe6_2 h h2
  | 3, _, _ => pe6_3 h h2
  | 4, _, _ => pe6_4 h h2
  | 5, _, _ => pe6_5 h h2
  | n + 6, _, z => absurd z (by omega)
theorem pe10_1 (h : 0 ≤ g) (h2 : 0 ≤ t) : pl 1 g t A10 = due10 g t 1 := by
  simp [pl, plS, stepS, reach, rgT, minI, maxI, wayV, wayN, putI, getI, List.range, List.range.loop, due10, mx, mn, enumI]
  all_goals (repeat' (first | omega | (apply And.intro) | split))
theorem pe10_2 (h : 0 ≤ g) (h2 : 0 ≤ t) : pl 2 g t A10 = due10 g t 2 := by
  simp [pl, plS, stepS, reach, rgT, minI, maxI, wayV, wayN, putI, getI, List.range, List.range.loop, due10, mx, mn, enumI]
  all_goals (repeat' (first | omega | (apply And.intro) | split))
theorem pe10_3 (h : 0 ≤ g) (h2 : 0 ≤ t) : pl 3 g t A10 = due10 g t 3 := by
  simp [pl, plS, stepS, reach, rgT, minI, maxI, wayV, wayN, putI, getI, List.range, List.range.loop, due10, mx, mn, enumI]
  all_goals (repeat' (first | omega | (apply And.intro) | split))
theorem pe10_4 (h : 0 ≤ g) (h2 : 0 ≤ t) : pl 4 g t A10 = due10 g t 4 := by
  simp [pl, plS, stepS, reach, rgT, minI, maxI, wayV, wayN, putI, getI, List.range, List.range.loop, due10, mx, mn, enumI]
  all_goals (repeat' (first | omega | (apply And.intro) | split))
theorem pe10_5 (h : 0 ≤ g) (h2 : 0 ≤ t) : pl 5 g t A10 = due10 g t 5 := by
  simp [pl, plS, stepS, reach, rgT, minI, maxI, wayV, wayN, putI, getI, List.range, List.range.loop, due10, mx, mn, enumI]
  all_goals (repeat' (first | omega | (apply And.intro) | split))
theorem pe10 (h : 0 ≤ g) (h2 : 0 ≤ t) : ∀ n : Nat, 1 ≤ n → n ≤ 5 → pl n g t A10 = due10 g t n
  | 1, _, _ => pe10_1 h h2
  | 2, _, _ => pe10_2 h h2
  | 3, _, _ => pe10_3 h h2
  | 4, _, _ => pe10_4 h h2
  | 5, _, _ => pe10_5 h h2
  | n + 6, _, z => absurd z (by omega)
theorem pe7_1_0 (h : 0 ≤ g) (h2 : 0 ≤ t) : pl 1 g t (A7 ((0 : Nat) : Int)) = due7 g t 1 ((0 : Nat) : Int) := by
  simp [pl, plS, stepS, reach, rgT, minI, maxI, wayV, wayN, putI, getI, List.range, List.range.loop, due7, mx, mn, enumI]
  all_goals (repeat' (first | omega | (apply And.intro) | split))
theorem pe7_1_1 (h : 0 ≤ g) (h2 : 0 ≤ t) : pl 1 g t (A7 ((1 : Nat) : Int)) = due7 g t 1 ((1 : Nat) : Int) := by
  simp [pl, plS, stepS, reach, rgT, minI, maxI, wayV, wayN, putI, getI, List.range, List.range.loop, due7, mx, mn, enumI]
  all_goals (repeat' (first | omega | (apply And.intro) | split))
theorem pe7_2_0 (h : 0 ≤ g) (h2 : 0 ≤ t) : pl 2 g t (A7 ((0 : Nat) : Int)) = due7 g t 2 ((0 : Nat) : Int) := by
  simp [pl, plS, stepS, reach, rgT, minI, maxI, wayV, wayN, putI, getI, List.range, List.range.loop, due7, mx, mn, enumI]
  all_goals (repeat' (first | omega | (apply And.intro) | split))
theorem pe7_2_1 (h : 0 ≤ g) (h2 : 0 ≤ t) : pl 2 g t (A7 ((1 : Nat) : Int)) = due7 g t 2 ((1 : Nat) : Int) := by
  simp [pl, plS, stepS, reach, rgT, minI, maxI, wayV, wayN, putI, getI, List.range, List.range.loop, due7, mx, mn, enumI]
  all_goals (repeat' (first | omega | (apply And.intro) | split))
theorem pe7_2_2 (h : 0 ≤ g) (h2 : 0 ≤ t) : pl 2 g t (A7 ((2 : Nat) : Int)) = due7 g t 2 ((2 : Nat) : Int) := by
  simp [pl, plS, stepS, reach, rgT, minI, maxI, wayV, wayN, putI, getI, List.range, List.range.loop, due7, mx, mn, enumI]
  all_goals (repeat' (first | omega | (apply And.intro) | split))
theorem pe7_3_0 (h : 0 ≤ g) (h2 : 0 ≤ t) : pl 3 g t (A7 ((0 : Nat) : Int)) = due7 g t 3 ((0 : Nat) : Int) := by
  simp [pl, plS, stepS, reach, rgT, minI, maxI, wayV, wayN, putI, getI, List.range, List.range.loop, due7, mx, mn, enumI]
  all_goals (repeat' (first | omega | (apply And.intro) | split))
theorem pe7_3_1 (h : 0 ≤ g) (h2 : 0 ≤ t) : pl 3 g t (A7 ((1 : Nat) : Int)) = due7 g t 3 ((1 : Nat) : Int) := by
  simp [pl, plS, stepS, reach, rgT, minI, maxI, wayV, wayN, putI, getI, List.range, List.range.loop, due7, mx, mn, enumI]
  all_goals (repeat' (first | omega | (apply And.intro) | split))
theorem pe7_3_2 (h : 0 ≤ g) (h2 : 0 ≤ t) : pl 3 g t (A7 ((2 : Nat) : Int)) = due7 g t 3 ((2 : Nat) : Int) := by
  simp [pl, plS, stepS, reach, rgT, minI, maxI, wayV, wayN, putI, getI, List.range, List.range.loop, due7, mx, mn, enumI]
  all_goals (repeat' (first | omega | (apply And.intro) | split))
theorem pe7_3_3 (h : 0 ≤ g) (h2 : 0 ≤ t) : pl 3 g t (A7 ((3 : Nat) : Int)) = due7 g t 3 ((3 : Nat) : Int) := by
  simp [pl, plS, stepS, reach, rgT, minI, maxI, wayV, wayN, putI, getI, List.range, List.range.loop, due7, mx, mn, enumI]
  all_goals (repeat' (first | omega | (apply And.intro) | split))
theorem pe7_4_0 (h : 0 ≤ g) (h2 : 0 ≤ t) : pl 4 g t (A7 ((0 : Nat) : Int)) = due7 g t 4 ((0 : Nat) : Int) := by
  simp [pl, plS, stepS, reach, rgT, minI, maxI, wayV, wayN, putI, getI, List.range, List.range.loop, due7, mx, mn, enumI]
  all_goals (repeat' (first | omega | (apply And.intro) | split))
theorem pe7_4_1 (h : 0 ≤ g) (h2 : 0 ≤ t) : pl 4 g t (A7 ((1 : Nat) : Int)) = due7 g t 4 ((1 : Nat) : Int) := by
  simp [pl, plS, stepS, reach, rgT, minI, maxI, wayV, wayN, putI, getI, List.range, List.range.loop, due7, mx, mn, enumI]
  all_goals (repeat' (first | omega | (apply And.intro) | split))
theorem pe7_4_2 (h : 0 ≤ g) (h2 : 0 ≤ t) : pl 4 g t (A7 ((2 : Nat) : Int)) = due7 g t 4 ((2 : Nat) : Int) := by
  simp [pl, plS, stepS, reach, rgT, minI, maxI, wayV, wayN, putI, getI, List.range, List.range.loop, due7, mx, mn, enumI]
  all_goals (repeat' (first | omega | (apply And.intro) | split))
theorem pe7_4_3 (h : 0 ≤ g) (h2 : 0 ≤ t) : pl 4 g t (A7 ((3 : Nat) : Int)) = due7 g t 4 ((3 : Nat) : Int) := by
  simp [pl, plS, stepS, reach, rgT, minI, maxI, wayV, wayN, putI, getI, List.range, List.range.loop, due7, mx, mn, enumI]
  all_goals (repeat' (first | omega | (apply And.intro) | split))
theorem pe7_4_4 (h : 0 ≤ g) (h2 : 0 ≤ t) : pl 4 g t (A7 ((4 : Nat) : Int)) = due7 g t 4 ((4 : Nat) : Int) := by
  simp [pl, plS, stepS, reach, rgT, minI, maxI, wayV, wayN, putI, getI, List.range, List.range.loop, due7, mx, mn, enumI]
  all_goals (repeat' (first | omega | (apply And.intro) | split))
theorem pe7_5_0 (h : 0 ≤ g) (h2 : 0 ≤ t) : pl 5 g t (A7 ((0 : Nat) : Int)) = due7 g t 5 ((0 : Nat) : Int) := by
  simp [pl, plS, stepS, reach, rgT, minI, maxI, wayV, wayN, putI, getI, List.range, List.range.loop, due7, mx, mn, enumI]
  all_goals (repeat' (first | omega | (apply And.intro) | split))
theorem pe7_5_1 (h : 0 ≤ g) (h2 : 0 ≤ t) : pl 5 g t (A7 ((1 : Nat) : Int)) = due7 g t 5 ((1 : Nat) : Int) := by
  simp [pl, plS, stepS, reach, rgT, minI, maxI, wayV, wayN, putI, getI, List.range, List.range.loop, due7, mx, mn, enumI]
  all_goals (repeat' (first | omega | (apply And.intro) | split))
theorem pe7_5_2 (h : 0 ≤ g) (h2 : 0 ≤ t) : pl 5 g t (A7 ((2 : Nat) : Int)) = due7 g t 5 ((2 : Nat) : Int) := by
  simp [pl, plS, stepS, reach, rgT, minI, maxI, wayV, wayN, putI, getI, List.range, List.range.loop, due7, mx, mn, enumI]
  all_goals (repeat' (first | omega | (apply And.intro) | split))
theorem pe7_5_3 (h : 0 ≤ g) (h2 : 0 ≤ t) : pl 5 g t (A7 ((3 : Nat) : Int)) = due7 g t 5 ((3 : Nat) : Int) := by
  simp [pl, plS, stepS, reach, rgT, minI, maxI, wayV, wayN, putI, getI, List.range, List.range.loop, due7, mx, mn, enumI]
  all_goals (repeat' (first | omega | (apply And.intro) | split))
theorem pe7_5_4 (h : 0 ≤ g) (h2 : 0 ≤ t) : pl 5 g t (A7 ((4 : Nat) : Int)) = due7 g t 5 ((4 : Nat) : Int) := by
  simp [pl, plS, stepS, reach, rgT, minI, maxI, wayV, wayN, putI, getI, List.range, List.range.loop, due7, mx, mn, enumI]
  all_goals (repeat' (first | omega | (apply And.intro) | split))
theorem pe7_5_5 (h : 0 ≤ g) (h2 : 0 ≤ t) : pl 5 g t (A7 ((5 : Nat) : Int)) = due7 g t 5 ((5 : Nat) : Int) := by
  simp [pl, plS, stepS, reach, rgT, minI, maxI, wayV, wayN, putI, getI, List.range, List.range.loop, due7, mx, mn, enumI]
  all_goals (repeat' (first | omega | (apply And.intro) | split))
theorem pe7 (h : 0 ≤ g) (h2 : 0 ≤ t) : ∀ n k : Nat, 1 ≤ n → n ≤ 5 → k ≤ n → pl n g t (A7 k) = due7 g t n k
  | 1, 0, _, _, _ => pe7_1_0 h h2
  | 1, 1, _, _, _ => pe7_1_1 h h2
  | 1, k + 2, _, _, z => absurd z (by omega)
  | 2, 0, _, _, _ => pe7_2_0 h h2
  | 2, 1, _, _, _ => pe7_2_1 h h2
  | 2, 2, _, _, _ => pe7_2_2 h h2
  | 2, k + 3, _, _, z => absurd z (by omega)
  | 3, 0, _, _, _ => pe7_3_0 h h2
  | 3, 1, _, _, _ => pe7_3_1 h h2
  | 3, 2, _, _, _ => pe7_3_2 h h2
  | 3, 3, _, _, _ => pe7_3_3 h h2
  | 3, k + 4, _, _, z => absurd z (by omega)
  | 4, 0, _, _, _ => pe7_4_0 h h2
  | 4, 1, _, _, _ => pe7_4_1 h h2
  | 4, 2, _, _, _ => pe7_4_2 h h2
  | 4, 3, _, _, _ => pe7_4_3 h h2
  | 4, 4, _, _, _ => pe7_4_4 h h2
  | 4, k + 5, _, _, z => absurd z (by omega)
  | 5, 0, _, _, _ => pe7_5_0 h h2
  | 5, 1, _, _, _ => pe7_5_1 h h2
  | 5, 2, _, _, _ => pe7_5_2 h h2
  | 5, 3, _, _, _ => pe7_5_3 h h2
  | 5, 4, _, _, _ => pe7_5_4 h h2
  | 5, 5, _, _, _ => pe7_5_5 h h2
  | 5, k + 6, _, _, z => absurd z (by omega)
  | n + 6, _, _, z, _ => absurd z (by omega)
theorem pe8_1_0 (h : 0 ≤ g) (h2 : 0 ≤ t) : pl 1 g t (A8 ((0 : Nat) : Int)) = due8 g t 1 ((0 : Nat) : Int) := by
  simp [pl, plS, stepS, reach, rgT, minI, maxI, wayV, wayN, putI, getI, List.range, List.range.loop, due8, mx, mn, enumI]
  all_goals (repeat' (first | omega | (apply And.intro) | split))
theorem pe8_1_1 (h : 0 ≤ g) (h2 : 0 ≤ t) : pl 1 g t (A8 ((1 : Nat) : Int)) = due8 g t 1 ((1 : Nat) : Int) := by
  simp [pl, plS, stepS, reach, rgT, minI, maxI, wayV, wayN, putI, getI, List.range, List.range.loop, due8, mx, mn, enumI]
  all_goals (repeat' (first | omega | (apply And.intro) | split))
theorem pe8_2_0 (h : 0 ≤ g) (h2 : 0 ≤ t) : pl 2 g t (A8 ((0 : Nat) : Int)) = due8 g t 2 ((0 : Nat) : Int) := by
  simp [pl, plS, stepS, reach, rgT, minI, maxI, wayV, wayN, putI, getI, List.range, List.range.loop, due8, mx, mn, enumI]
  all_goals (repeat' (first | omega | (apply And.intro) | split))
theorem pe8_2_1 (h : 0 ≤ g) (h2 : 0 ≤ t) : pl 2 g t (A8 ((1 : Nat) : Int)) = due8 g t 2 ((1 : Nat) : Int) := by
  simp [pl, plS, stepS, reach, rgT, minI, maxI, wayV, wayN, putI, getI, List.range, List.range.loop, due8, mx, mn, enumI]
  all_goals (repeat' (first | omega | (apply And.intro) | split))
theorem pe8_2_2 (h : 0 ≤ g) (h2 : 0 ≤ t) : pl 2 g t (A8 ((2 : Nat) : Int)) = due8 g t 2 ((2 : Nat) : Int) := by
  simp [pl, plS, stepS, reach, rgT, minI, maxI, wayV, wayN, putI, getI, List.range, List.range.loop, due8, mx, mn, enumI]
  all_goals (repeat' (first | omega | (apply And.intro) | split))
theorem pe8_3_0 (h : 0 ≤ g) (h2 : 0 ≤ t) : pl 3 g t (A8 ((0 : Nat) : Int)) = due8 g t 3 ((0 : Nat) : Int) := by
  simp [pl, plS, stepS, reach, rgT, minI, maxI, wayV, wayN, putI, getI, List.range, List.range.loop, due8, mx, mn, enumI]
  all_goals (repeat' (first | omega | (apply And.intro) | split))
theorem pe8_3_1 (h : 0 ≤ g) (h2 : 0 ≤ t) : pl 3 g t (A8 ((1 : Nat) : Int)) = due8 g t 3 ((1 : Nat) : Int) := by
  simp [pl, plS, stepS, reach, rgT, minI, maxI, wayV, wayN, putI, getI, List.range, List.range.loop, due8, mx, mn, enumI]
  all_goals (repeat' (first | omega | (apply And.intro) | split))
theorem pe8_3_2 (h : 0 ≤ g) (h2 : 0 ≤ t) : pl 3 g t (A8 ((2 : Nat) : Int)) = due8 g t 3 ((2 : Nat) : Int) := by
  simp [pl, plS, stepS, reach, rgT, minI, maxI, wayV, wayN, putI, getI, List.range, List.range.loop, due8, mx, mn, enumI]
  all_goals (repeat' (first | omega | (apply And.intro) | split))
theorem pe8_3_3 (h : 0 ≤ g) (h2 : 0 ≤ t) : pl 3 g t (A8 ((3 : Nat) : Int)) = due8 g t 3 ((3 : Nat) : Int) := by
  simp [pl, plS, stepS, reach, rgT, minI, maxI, wayV, wayN, putI, getI, List.range, List.range.loop, due8, mx, mn, enumI]
  all_goals (repeat' (first | omega | (apply And.intro) | split))
theorem pe8_4_0 (h : 0 ≤ g) (h2 : 0 ≤ t) : pl 4 g t (A8 ((0 : Nat) : Int)) = due8 g t 4 ((0 : Nat) : Int) := by
  simp [pl, plS, stepS, reach, rgT, minI, maxI, wayV, wayN, putI, getI, List.range, List.range.loop, due8, mx, mn, enumI]
  all_goals (repeat' (first | omega | (apply And.intro) | split))
theorem pe8_4_1 (h : 0 ≤ g) (h2 : 0 ≤ t) : pl 4 g t (A8 ((1 : Nat) : Int)) = due8 g t 4 ((1 : Nat) : Int) := by
  simp [pl, plS, stepS, reach, rgT, minI, maxI, wayV, wayN, putI, getI, List.range, List.range.loop, due8, mx, mn, enumI]
  all_goals (repeat' (first | omega | (apply And.intro) | split))
theorem pe8_4_2 (h : 0 ≤ g) (h2 : 0 ≤ t) : pl 4 g t (A8 ((2 : Nat) : Int)) = due8 g t 4 ((2 : Nat) : Int) := by
  simp [pl, plS, stepS, reach, rgT, minI, maxI, wayV, wayN, putI, getI, List.range, List.range.loop, due8, mx, mn, enumI]
  all_goals (repeat' (first | omega | (apply And.intro) | split))
theorem pe8_4_3 (h : 0 ≤ g) (h2 : 0 ≤ t) : pl 4 g t (A8 ((3 : Nat) : Int)) = due8 g t 4 ((3 : Nat) : Int) := by
  simp [pl, plS, stepS, reach, rgT, minI, maxI, wayV, wayN, putI, getI, List.range, List.range.loop, due8, mx, mn, enumI]
  all_goals (repeat' (first | omega | (apply And.intro) | split))
theorem pe8_4_4 (h : 0 ≤ g) (h2 : 0 ≤ t) : pl 4 g t (A8 ((4 : Nat) : Int)) = due8 g t 4 ((4 : Nat) : Int) := by
  simp [pl, plS, stepS, reach, rgT, minI, maxI, wayV, wayN, putI, getI, List.range, List.range.loop, due8, mx, mn, enumI]
  all_goals (repeat' (first | omega | (apply And.intro) | split))
theorem pe8_5_0 (h : 0 ≤ g) (h2 : 0 ≤ t) : pl 5 g t (A8 ((0 : Nat) : Int)) = due8 g t 5 ((0 : Nat) : Int) := by
  simp [pl, plS, stepS, reach, rgT, minI, maxI, wayV, wayN, putI, getI, List.range, List.range.loop, due8, mx, mn, enumI]
  all_goals (repeat' (first | omega | (apply And.intro) | split))
theorem pe8_5_1 (h : 0 ≤ g) (h2 : 0 ≤ t) : pl 5 g t (A8 ((1 : Nat) : Int)) = due8 g t 5 ((1 : Nat) : Int) := by
  simp [pl, plS, stepS, reach, rgT, minI, maxI, wayV, wayN, putI, getI, List.range, List.range.loop, due8, mx, mn, enumI]
  all_goals (repeat' (first | omega | (apply And.intro) | split))
theorem pe8_5_2 (h : 0 ≤ g) (h2 : 0 ≤ t) : pl 5 g t (A8 ((2 : Nat) : Int)) = due8 g t 5 ((2 : Nat) : Int) := by
  simp [pl, plS, stepS, reach, rgT, minI, maxI, wayV, wayN, putI, getI, List.range, List.range.loop, due8, mx, mn, enumI]
  all_goals (repeat' (first | omega | (apply And.intro) | split))
theorem pe8_5_3 (h : 0 ≤ g) (h2 : 0 ≤ t) : pl 5 g t (A8 ((3 : Nat) : Int)) = due8 g t 5 ((3 : Nat) : Int) := by
  simp [pl, plS, stepS, reach, rgT, minI, maxI, wayV, wayN, putI, getI, List.range, List.range.loop, due8, mx, mn, enumI]
  all_goals (repeat' (first | omega | (apply And.intro) | split))
theorem pe8_5_4 (h : 0 ≤ g) (h2 : 0 ≤ t) : pl 5 g t (A8 ((4 : Nat) : Int)) = due8 g t 5 ((4 : Nat) : Int) := by
  simp [pl, plS, stepS, reach, rgT, minI, maxI, wayV, wayN, putI, getI, List.range, List.range.loop, due8, mx, mn, enumI]
  all_goals (repeat' (first | omega | (apply And.intro) | split))
theorem pe8_5_5 (h : 0 ≤ g) (h2 : 0 ≤ t) : pl 5 g t (A8 ((5 : Nat) : Int)) = due8 g t 5 ((5 : Nat) : Int) := by
  simp [pl, plS, stepS, reach, rgT, minI, maxI, wayV, wayN, putI, getI, List.range, List.range.loop, due8, mx, mn, enumI]
  all_goals (repeat' (first | omega | (apply And.intro) | split))
theorem pe8 (h : 0 ≤ g) (h2 : 0 ≤ t) : ∀ n k : Nat, 1 ≤ n → n ≤ 5 → k ≤ n → pl n g t (A8 k) = due8 g t n k
  | 1, 0, _, _, _ => pe8_1_0 h h2
  | 1, 1, _, _, _ => pe8_1_1 h h2
  | 1, k + 2, _, _, z => absurd z (by omega)
  | 2, 0, _, _, _ => pe8_2_0 h h2
  | 2, 1, _, _, _ => pe8_2_1 h h2
  | 2, 2, _, _, _ => pe8_2_2 h h2
  | 2, k + 3, _, _, z => absurd z (by omega)
  | 3, 0, _, _, _ => pe8_3_0 h h2
  | 3, 1, _, _, _ => pe8_3_1 h h2
  | 3, 2, _, _, _ => pe8_3_2 h h2
  | 3, 3, _, _, _ => pe8_3_3 h h2
  | 3, k + 4, _, _, z => absurd z (by omega)
  | 4, 0, _, _, _ => pe8_4_0 h h2
  | 4, 1, _, _, _ => pe8_4_1 h h2
  | 4, 2, _, _, _ => pe8_4_2 h h2
  | 4, 3, _, _, _ => pe8_4_3 h h2
  | 4, 4, _, _, _ => pe8_4_4 h h2
  | 4, k + 5, _, _, z => absurd z (by omega)
  | 5, 0, _, _, _ => pe8_5_0 h h2
  | 5, 1, _, _, _ => pe8_5_1 h h2
  | 5, 2, _, _, _ => pe8_5_2 h h2
  | 5, 3, _, _, _ => pe8_5_3 h h2
  | 5, 4, _, _, _ => pe8_5_4 h h2
  | 5, 5, _, _, _ => pe8_5_5 h h2
  | 5, k + 6, _, _, z => absurd z (by omega)
  | n + 6, _, _, z, _ => absurd z (by omega)
theorem pe9_1_0 (h : 0 ≤ g) (h2 : 0 ≤ t) : pl 1 g t (A9 ((0 : Nat) : Int)) = due9 g t 1 ((0 : Nat) : Int) := by
  simp [pl, plS, stepS, reach, rgT, minI, maxI, wayV, wayN, putI, getI, List.range, List.range.loop, due9, due1, mx, mn, enumI]
  all_goals (repeat' (first | omega | (apply And.intro) | split))
theorem pe9_1_1 (h : 0 ≤ g) (h2 : 0 ≤ t) : pl 1 g t (A9 ((1 : Nat) : Int)) = due9 g t 1 ((1 : Nat) : Int) := by
  simp [pl, plS, stepS, reach, rgT, minI, maxI, wayV, wayN, putI, getI, List.range, List.range.loop, due9, due1, mx, mn, enumI]
  all_goals (repeat' (first | omega | (apply And.intro) | split))
theorem pe9_2_0 (h : 0 ≤ g) (h2 : 0 ≤ t) : pl 2 g t (A9 ((0 : Nat) : Int)) = due9 g t 2 ((0 : Nat) : Int) := by
  simp [pl, plS, stepS, reach, rgT, minI, maxI, wayV, wayN, putI, getI, List.range, List.range.loop, due9, due1, mx, mn, enumI]
  all_goals (repeat' (first | omega | (apply And.intro) | split))
theorem pe9_2_1 (h : 0 ≤ g) (h2 : 0 ≤ t) : pl 2 g t (A9 ((1 : Nat) : Int)) = due9 g t 2 ((1 : Nat) : Int) := by
  simp [pl, plS, stepS, reach, rgT, minI, maxI, wayV, wayN, putI, getI, List.range, List.range.loop, due9, due1, mx, mn, enumI]
  all_goals (repeat' (first | omega | (apply And.intro) | split))
theorem pe9_2_2 (h : 0 ≤ g) (h2 : 0 ≤ t) : pl 2 g t (A9 ((2 : Nat) : Int)) = due9 g t 2 ((2 : Nat) : Int) := by
  simp [pl, plS, stepS, reach, rgT, minI, maxI, wayV, wayN, putI, getI, List.range, List.range.loop, due9, due1, mx, mn, enumI]
  all_goals (repeat' (first | omega | (apply And.intro) | split))
theorem pe9_3_0 (h : 0 ≤ g) (h2 : 0 ≤ t) : pl 3 g t (A9 ((0 : Nat) : Int)) = due9 g t 3 ((0 : Nat) : Int) := by
  simp [pl, plS, stepS, reach, rgT, minI, maxI, wayV, wayN, putI, getI, List.range, List.range.loop, due9, due1, mx, mn, enumI]
  all_goals (repeat' (first | omega | (apply And.intro) | split))
theorem pe9_3_1 (h : 0 ≤ g) (h2 : 0 ≤ t) : pl 3 g t (A9 ((1 : Nat) : Int)) = due9 g t 3 ((1 : Nat) : Int) := by
  simp [pl, plS, stepS, reach, rgT, minI, maxI, wayV, wayN, putI, getI, List.range, List.range.loop, due9, due1, mx, mn, enumI]
  all_goals (repeat' (first | omega | (apply And.intro) | split))
theorem pe9_3_2 (h : 0 ≤ g) (h2 : 0 ≤ t) : pl 3 g t (A9 ((2 : Nat) : Int)) = due9 g t 3 ((2 : Nat) : Int) := by
  simp [pl, plS, stepS, reach, rgT, minI, maxI, wayV, wayN, putI, getI, List.range, List.range.loop, due9, due1, mx, mn, enumI]
  all_goals (repeat' (first | omega | (apply And.intro) | split))
theorem pe9_3_3 (h : 0 ≤ g) (h2 : 0 ≤ t) : pl 3 g t (A9 ((3 : Nat) : Int)) = due9 g t 3 ((3 : Nat) : Int) := by
  simp [pl, plS, stepS, reach, rgT, minI, maxI, wayV, wayN, putI, getI, List.range, List.range.loop, due9, due1, mx, mn, enumI]
  all_goals (repeat' (first | omega | (apply And.intro) | split))
theorem pe9_4_0 (h : 0 ≤ g) (h2 : 0 ≤ t) : pl 4 g t (A9 ((0 : Nat) : Int)) = due9 g t 4 ((0 : Nat) : Int) := by
  simp [pl, plS, stepS, reach, rgT, minI, maxI, wayV, wayN, putI, getI, List.range, List.range.loop, due9, due1, mx, mn, enumI]
  all_goals (repeat' (first | omega | (apply And.intro) | split))
theorem pe9_4_1 (h : 0 ≤ g) (h2 : 0 ≤ t) : pl 4 g t (A9 ((1 : Nat) : Int)) = due9 g t 4 ((1 : Nat) : Int) := by
  simp [pl, plS, stepS, reach, rgT, minI, maxI, wayV, wayN, putI, getI, List.range, List.range.loop, due9, due1, mx, mn, enumI]
  all_goals (repeat' (first | omega | (apply And.intro) | split))
theorem pe9_4_2 (h : 0 ≤ g) (h2 : 0 ≤ t) : pl 4 g t (A9 ((2 : Nat) : Int)) = due9 g t 4 ((2 : Nat) : Int) := by
  simp [pl, plS, stepS, reach, rgT, minI, maxI, wayV, wayN, putI, getI, List.range, List.range.loop, due9, due1, mx, mn, enumI]
  all_goals (repeat' (first | omega | (apply And.intro) | split))
theorem pe9_4_3 (h : 0 ≤ g) (h2 : 0 ≤ t) : pl 4 g t (A9 ((3 : Nat) : Int)) = due9 g t 4 ((3 : Nat) : Int) := by
  simp [pl, plS, stepS, reach, rgT, minI, maxI, wayV, wayN, putI, getI, List.range, List.range.loop, due9, due1, mx, mn, enumI]
  all_goals (repeat' (first | omega | (apply And.intro) | split))
theorem pe9_4_4 (h : 0 ≤ g) (h2 : 0 ≤ t) : pl 4 g t (A9 ((4 : Nat) : Int)) = due9 g t 4 ((4 : Nat) : Int) := by
  simp [pl, plS, stepS, reach, rgT, minI, maxI, wayV, wayN, putI, getI, List.range, List.range.loop, due9, due1, mx, mn, enumI]
  all_goals (repeat' (first | omega | (apply And.intro) | split))
theorem pe9_5_0 (h : 0 ≤ g) (h2 : 0 ≤ t) : pl 5 g t (A9 ((0 : Nat) : Int)) = due9 g t 5 ((0 : Nat) : Int) := by
  simp [pl, plS, stepS, reach, rgT, minI, maxI, wayV, wayN, putI, getI, List.range, List.range.loop, due9, due1, mx, mn, enumI]
  all_goals (repeat' (first | omega | (apply And.intro) | split))
theorem pe9_5_1 (h : 0 ≤ g) (h2 : 0 ≤ t) : pl 5 g t (A9 ((1 : Nat) : Int)) = due9 g t 5 ((1 : Nat) : Int) := by
  simp [pl, plS, stepS, reach, rgT, minI, maxI, wayV, wayN, putI, getI, List.range, List.range.loop, due9, due1, mx, mn, enumI]
  all_goals (repeat' (first | omega | (apply And.intro) | split))
theorem pe9_5_2 (h : 0 ≤ g) (h2 : 0 ≤ t) : pl 5 g t (A9 ((2 : Nat) : Int)) = due9 g t 5 ((2 : Nat) : Int) := by
  simp [pl, plS, stepS, reach, rgT, minI, maxI, wayV, wayN, putI, getI, List.range, List.range.loop, due9, due1, mx, mn, enumI]
  all_goals (repeat' (first | omega | (apply And.intro) | split))
theorem pe9_5_3 (h : 0 ≤ g) (h2 : 0 ≤ t) : pl 5 g t (A9 ((3 : Nat) : Int)) = due9 g t 5 ((3 : Nat) : Int) := by
  simp [pl, plS, stepS, reach, rgT, minI, maxI, wayV, wayN, putI, getI, List.range, List.range.loop, due9, due1, mx, mn, enumI]
  all_goals (repeat' (first | omega | (apply And.intro) | split))
theorem pe9_5_4 (h : 0 ≤ g) (h2 : 0 ≤ t) : pl 5 g t (A9 ((4 : Nat) : Int)) = due9 g t 5 ((4 : Nat) : Int) := by
  simp [pl, plS, stepS, reach, rgT, minI, maxI, wayV, wayN, putI, getI, List.range, List.range.loop, due9, due1, mx, mn, enumI]
  all_goals (repeat' (first | omega | (apply And.intro) | split))
theorem pe9_5_5 (h : 0 ≤ g) (h2 : 0 ≤ t) : pl 5 g t (A9 ((5 : Nat) : Int)) = due9 g t 5 ((5 : Nat) : Int) := by
  simp [pl, plS, stepS, reach, rgT, minI, maxI, wayV, wayN, putI, getI, List.range, List.range.loop, due9, due1, mx, mn, enumI]
  all_goals (repeat' (first | omega | (apply And.intro) | split))
theorem pe9 (h : 0 ≤ g) (h2 : 0 ≤ t) : ∀ n k : Nat, 1 ≤ n → n ≤ 5 → k ≤ n → pl n g t (A9 k) = due9 g t n k
  | 1, 0, _, _, _ => pe9_1_0 h h2
  | 1, 1, _, _, _ => pe9_1_1 h h2
  | 1, k + 2, _, _, z => absurd z (by omega)
  | 2, 0, _, _, _ => pe9_2_0 h h2
  | 2, 1, _, _, _ => pe9_2_1 h h2
  | 2, 2, _, _, _ => pe9_2_2 h h2
  | 2, k + 3, _, _, z => absurd z (by omega)
  | 3, 0, _, _, _ => pe9_3_0 h h2
  | 3, 1, _, _, _ => pe9_3_1 h h2
  | 3, 2, _, _, _ => pe9_3_2 h h2
  | 3, 3, _, _, _ => pe9_3_3 h h2
  | 3, k + 4, _, _, z => absurd z (by omega)
  | 4, 0, _, _, _ => pe9_4_0 h h2
  | 4, 1, _, _, _ => pe9_4_1 h h2
  | 4, 2, _, _, _ => pe9_4_2 h h2
  | 4, 3, _, _, _ => pe9_4_3 h h2
  | 4, 4, _, _, _ => pe9_4_4 h h2
  | 4, k + 5, _, _, z => absurd z (by omega)
  | 5, 0, _, _, _ => pe9_5_0 h h2
  | 5, 1, _, _, _ => pe9_5_1 h h2
  | 5, 2, _, _, _ => pe9_5_2 h h2
  | 5, 3, _, _, _ => pe9_5_3 h h2
  | 5, 4, _, _, _ => pe9_5_4 h h2
  | 5, 5, _, _, _ => pe9_5_5 h h2
  | 5, k + 6, _, _, z => absurd z (by omega)
  | n + 6, _, _, z, _ => absurd z (by omega)
end K12
namespace K12
open PySem L2 LL
def drM (w cs : List Int) (r tn : Int) : Mem := [.lst ((w.map .int).map .t), .dct [(.inr "wide", .loc 0), (.inr "cells", .t (.lst (cs.map .int))), (.inr "rest", .t (.int r)), (.inr "turn", .t (.int tn))]]
theorem dr_below (w : List T) (n : Nat) : ((w.map D.t).all fun d => d.below n) = true := by
  simp [D.below]
theorem dr_ok (w cs : List Int) (r tn : Int) : Mem.ok (drM w cs r tn) = true := by
  show (Cel.below 2 (.lst ((w.map .int).map .t)) && _) = true
  have h1 : Cel.below 2 (.lst ((w.map T.int).map .t)) = true := dr_below _ _
  rw [h1]; rfl
theorem dr_fin (w cs : List Int) (r tn : Int) (x : T) : finX 2 (.ok (.t x) (drM w cs r tn)) = .ok (.t x) (drM w cs r tn) := by
  show (if 2 ≤ (drM w cs r tn).length ∧ ((drM w cs r tn).take 2).all (·.below 2) = true then R.ok (D.t x) ((drM w cs r tn).take 2) else .bad) = _
  have h : ((drM w cs r tn).take 2).all (·.below 2) = true := dr_ok w cs r tn
  rw [if_pos ⟨Nat.le_refl 2, h⟩]; rfl
theorem sh_t (l : List T) (a b : Nat) : (l.map D.t).map (fun d => d.sh a b) = l.map D.t := by
  simp [Function.comp_def, D.sh]
theorem dr_call {n : Nat} {F : FN} {ds : List D} {w cs : List Int} {r tn : Int} {w' cs' : List Int} {r' tn' : Int} {x : T} (h : F ds (drM w cs r tn) = .ok (.t x) (drM w' cs' r' tn')) (hn : ds.length = n) (hb : ds.all (·.below 2) = true) :
    callK n 2 F ds (drM w cs r tn) = .ok (.t x) (drM w' cs' r' tn') := by
  unfold callK
  have h1 : (drM w cs r tn).take 2 = drM w cs r tn := rfl
  rw [if_pos ⟨hn, Nat.le_refl 2, hb, by rw [h1]; exact dr_ok w cs r tn⟩, h1, h]
  show (if 2 ≤ (drM w' cs' r' tn').length then R.ok (D.t x) (backM 2 (drM w cs r tn) (drM w' cs' r' tn')) else .bad) = _
  rw [if_pos (show 2 ≤ (drM w' cs' r' tn').length from Nat.le_refl 2)]
  have e : backM 2 (drM w cs r tn) (drM w' cs' r' tn') = drM w' cs' r' tn' := by
    show [Cel.lst ((((w'.map T.int).map D.t)).map (fun d => d.sh 2 2)), _] = _
    rw [sh_t]; rfl
  rw [e]
abbrev prm : List Int := [2147483647, 2147483629, 2147483587, 2147483579]
/-- the inner loop -/
theorem mix_in {w cs : List Int} {r tn tn1 f p b0 : Int} {d5 : D} (hp : 0 < p ∧ p < 2 ^ 40) (hb : 0 ≤ b0 ∧ b0 < 2 ^ 63) :
    ∃ b d, 0 ≤ b ∧ b < 2 ^ 63 ∧ s_law_mixed_b0_1 [.loc 1, .t (.int tn1), .t (.int f), .t (.int p), .t (.int b0), d5] (drM w cs r tn) = .nx [.loc 1, .t (.int tn1), .t (.int f), .t (.int p), .t (.int b), d] (drM w cs r tn) := by
  have hi : iAny (eOp dIx (eVar 0) (eC (.str "cells"))) [.loc 1, .t (.int tn1), .t (.int f), .t (.int p), .t (.int b0), d5] (drM w cs r tn) = .ok (cs.map fun x => D.t (.int x), fun _ => true) (drM w cs r tn) := by
    have e : eOp dIx (eVar 0) (eC (.str "cells")) [.loc 1, .t (.int tn1), .t (.int f), .t (.int p), .t (.int b0), d5] (drM w cs r tn) = .ok (.t (.lst (cs.map .int))) (drM w cs r tn) := by kernel_rfl
    unfold iAny
    rw [e]
    simp [R.bind, itemsB, Function.comp_def]
  unfold s_law_mixed_b0_1 sFor
  rw [hi]
  simp only [R.bindS]
  obtain ⟨ρ', M', e, b, d, h1, h2, rfl, rfl⟩ := loop_inv (g := gN 5) (body := s_law_mixed_b1_0) (I := fun _ ρ M => ∃ b d, 0 ≤ b ∧ b < 2 ^ 63 ∧ ρ = [.loc 1, .t (.int tn1), .t (.int f), .t (.int p), .t (.int b), d] ∧ M = drM w cs r tn) (cs.map fun x => D.t (.int x)) [.loc 1, .t (.int tn1), .t (.int f), .t (.int p), .t (.int b0), d5] (drM w cs r tn) ⟨b0, d5, hb.1, hb.2, rfl, rfl⟩ (by
    intro d hd m ρ M ⟨b, d', h1, h2, e1, e2⟩
    subst e1 e2
    obtain ⟨x, hx, rfl⟩ := List.mem_map.1 hd
    refine ⟨_, rfl, _, _, ?_, (b * 48271 + x + tn1) % p, .t (.int x), Int.emod_nonneg _ (by omega), Int.lt_of_lt_of_le (Int.emod_lt_of_pos _ hp.1) (by omega), rfl, rfl⟩
    have hm : mulOk b 48271 = true := mulOk_r (by decide)
    simp [s_law_mixed_b1_0, sAsg, eOp, eVar, eC, eCall, aCons, aNil, R.bind, R.bindS, dMul, dAdd, dMod, fInt, F1, hm, hp.1, gN])
  exact ⟨b, d, h1, h2, e⟩
theorem mix_body {w cs : List Int} {r tn tn1 f p : Int} {d4 d5 : D} (hp : 0 < p ∧ p < 2 ^ 40) (ht : 0 ≤ tn1 ∧ tn1 < 2 ^ 40) :
    ∃ f' b d, t_law_mixed_b0_0 [.loc 1, .t (.int tn1), .t (.int f), .t (.int p), d4, d5] (drM w cs r tn) = .nx [.loc 1, .t (.int tn1), .t (.int f'), .t (.int p), .t (.int b), d] (drM w cs r tn) := by
  unfold t_law_mixed_b0_0
  have hm : mulOk 69621 tn1 = true := mulOk_l (by decide)
  have hdv : dDiv (.t (.int p)) (.t (.int 23)) (drM w cs r tn) = .ok (.t (.int (p / 23))) (drM w cs r tn) := by kernel_rfl
  rw [sSeq_nx (ρ' := [.loc 1, .t (.int tn1), .t (.int f), .t (.int p), .t (.int (69621 * tn1 + p / 23)), d5]) (M' := drM w cs r tn) (by
    simp [s_law_mixed_b0_0, sAsg, eOp, eVar, eC, R.bind, R.bindS, dMul, hm, gN, hdv, dAdd])]
  have hq : 0 ≤ p / 23 ∧ p / 23 < 2 ^ 40 := by omega
  obtain ⟨b, d, h1, h2, e⟩ := mix_in (w := w) (cs := cs) (r := r) (tn := tn) (tn1 := tn1) (f := f) (p := p) (b0 := 69621 * tn1 + p / 23) (d5 := d5) hp (by omega)
  unfold t_law_mixed_b0_1
  rw [sSeq_nx e]
  have hm2 : mulOk f 2147483647 = true := mulOk_r (by decide)
  have hpw : dPow (.t (.int b)) (.t (.int 5)) (drM w cs r tn) = .ok (.t (.int (b ^ 5))) (drM w cs r tn) := by
    unfold dPow
    simp only
    rw [if_pos ⟨by decide, by decide, by omega⟩]
    rfl
  refine ⟨f * 2147483647 + b ^ 5 % p, b, d, ?_⟩
  simp [s_law_mixed_b0_2, sAsg, eOp, eVar, eC, eCall, aCons, aNil, R.bind, R.bindS, dMul, dAdd, dMod, fInt, F1, hm2, hp.1, gN, hpw]
theorem mixed_ok {w cs : List Int} {r tn : Int} (ht : 0 ≤ tn ∧ tn < 2 ^ 39) : ∃ x, m_law_mixed [.loc 1] (drM w cs r tn) = .ok (.t (.int x)) (drM w cs r (tn + 1)) := by
  have e0 : s_law_mixed_0 [.loc 1, .und, .und, .und, .und, .und] (drM w cs r tn) = .nx [.loc 1, .t (.int (tn + 1)), .t (.int 0), .und, .und, .und] (drM w cs r tn) := by kernel_rfl
  have e1 : s_law_mixed_1 [.loc 1, .t (.int (tn + 1)), .t (.int 0), .und, .und, .und] (drM w cs r tn) = .nx [.loc 1, .t (.int (tn + 1)), .t (.int 0), .und, .und, .und] (drM w cs r (tn + 1)) := by kernel_rfl
  have hi : iAny (eLst (aCons (eC (.int 2147483647)) (aCons (eC (.int 2147483629)) (aCons (eC (.int 2147483587)) (aCons (eC (.int 2147483579)) aNil))))) [.loc 1, .t (.int (tn + 1)), .t (.int 0), .und, .und, .und] (drM w cs r (tn + 1)) = .ok (prm.map fun x => D.t (.int x), fun _ => true) (drM w cs r (tn + 1)) := by kernel_rfl
  obtain ⟨ρ', M', e, f, d3, d4, d5, e3, e4⟩ := loop_inv (g := gN 3) (body := t_law_mixed_b0_0) (I := fun _ ρ M => ∃ f d3 d4 d5, ρ = [.loc 1, .t (.int (tn + 1)), .t (.int f), d3, d4, d5] ∧ M = drM w cs r (tn + 1)) (prm.map fun x => D.t (.int x)) [.loc 1, .t (.int (tn + 1)), .t (.int 0), .und, .und, .und] (drM w cs r (tn + 1)) ⟨0, _, _, _, rfl, rfl⟩ (by
    intro d hd m ρ M ⟨f, d3, d4, d5, e1, e2⟩
    subst e1 e2
    obtain ⟨p, hx, rfl⟩ := List.mem_map.1 hd
    have hp : 0 < p ∧ p < 2 ^ 40 := by
      simp only [prm, List.mem_cons, List.not_mem_nil, or_false] at hx
      rcases hx with rfl | rfl | rfl | rfl <;> decide
    obtain ⟨f', b, d, e⟩ := mix_body (w := w) (cs := cs) (r := r) (tn := tn + 1) (tn1 := tn + 1) (f := f) (p := p) (d4 := d4) (d5 := d5) hp (by omega)
    exact ⟨_, rfl, _, _, e, f', _, _, _, rfl, rfl⟩)
  subst e3 e4
  refine ⟨f, ?_⟩
  have e5 : s_law_mixed [.loc 1, .und, .und, .und, .und, .und] (drM w cs r tn) = .ret (.t (.int f)) (drM w cs r (tn + 1)) := by
    unfold s_law_mixed t_law_mixed_0
    rw [sSeq_nx e0]
    unfold t_law_mixed_1
    rw [sSeq_nx e1]
    unfold t_law_mixed_2
    rw [sSeq_nx (ρ' := [.loc 1, .t (.int (tn + 1)), .t (.int f), d3, d4, d5]) (M' := drM w cs r (tn + 1)) (by
      unfold s_law_mixed_2 sFor
      rw [hi]
      exact e)]
    rfl
  have e6 : m_law_mixed [.loc 1] (drM w cs r tn) = finX 2 (endB (s_law_mixed [.loc 1, .und, .und, .und, .und, .und] (drM w cs r tn))) := by
    unfold m_law_mixed; rw [runB_eq]; rfl
  rw [e6, e5]
  exact dr_fin _ _ _ _ _
theorem dr_wide (w cs : List Int) (r tn : Int) : dNe (.loc 0) (.t (.lst [])) (drM w cs r tn) = .ok (.t (.bl (!decide (w = [])))) (drM w cs r tn) := by
  have e : dEqB (drM w cs r tn) (.loc 0) (.t (.lst [])) = some (decide (w = [])) := by
    unfold dEqB
    have h1 : vwT (drM w cs r tn) (.loc 0) = some (.lst (w.map .int)) := by
      show (asTs ((w.map T.int).map D.t)).map T.lst = _
      rw [asTs_map]; rfl
    have h2 : toPy (.lst []) = some (.list (([] : List Int).map PyData.int)) := by simp [toPy, toPys]
    simp only [h1]
    simp only [vwT, toPy_ints, h2]
    rw [if_pos ⟨PySem.W.shaped_ints w, PySem.W.shaped_ints []⟩]
    simp only [PyData.eqv, eqvAll_ints]
  unfold dNe
  rw [e]
theorem take_ok {w cs : List Int} {r tn n : Int} (ht : 0 ≤ tn ∧ tn < 2 ^ 39) (hn : 0 < n ∧ n.natAbs.log2 < 9000) : ∃ x w' r' tn', m_law_take [.loc 1, .t (.int n)] (drM w cs r tn) = .ok (.t (.int x)) (drM w' cs r' tn') ∧ 0 ≤ x ∧ x < n ∧ tn ≤ tn' ∧ tn' ≤ tn + 1 := by
  have e0 : ∃ w1 r1 tn1, s_law_take_0 [.loc 1, .t (.int n), .und] (drM w cs r tn) = .nx [.loc 1, .t (.int n), .und] (drM w1 cs r1 tn1) ∧ tn ≤ tn1 ∧ tn1 ≤ tn + 1 := by
    have t0 : asT (eOp dEq (eOp dIx (eVar 0) (eC (.str "rest"))) (eC (.int 0))) [.loc 1, .t (.int n), .und] (drM w cs r tn) = .ok (decide (r = 0)) (drM w cs r tn) := by kernel_rfl
    have tw : eOp dIx (eVar 0) (eC (.str "wide")) [.loc 1, .t (.int n), .und] (drM w cs r tn) = .ok (.loc 0) (drM w cs r tn) := by kernel_rfl
    have st : ∀ w cs r tn x, setB (drM w cs r tn) (.loc 1) (.t (.str "rest")) (.t (.int x)) = some (drM w cs x tn) := fun _ _ _ _ _ => by kernel_rfl
    by_cases hr : r = 0
    · subst hr
      have t1 : asT (eOp dNe (eOp dIx (eVar 0) (eC (.str "wide"))) (eLst aNil)) [.loc 1, .t (.int n), .und] (drM w cs 0 tn) = .ok (!decide (w = [])) (drM w cs 0 tn) := by
        refine asT_ok ?_
        rw [eOp_ok tw (e := .t (.lst [])) (M2 := drM w cs 0 tn) rfl]
        exact dr_wide w cs 0 tn
      have t0' : asT (eOp dEq (eOp dIx (eVar 0) (eC (.str "rest"))) (eC (.int 0))) [.loc 1, .t (.int n), .und] (drM w cs 0 tn) = .ok true (drM w cs 0 tn) := t0
      cases w with
      | nil =>
        obtain ⟨x, ex⟩ := mixed_ok (w := []) (cs := cs) (r := 0) (tn := tn) ht
        refine ⟨[], x, tn + 1, ?_, by omega, by omega⟩
        have ec := dr_call (n := 1) ex rfl rfl
        unfold s_law_take_0
        rw [sIf_t t0']
        refine sSub_ok (v := .t (.int x)) (M1 := drM [] cs 0 (tn + 1)) ?_ rfl rfl (st _ _ _ _ _)
        rw [eIf_f t1]
        exact (eFn_ok (ds := [.loc 1]) (M1 := drM [] cs 0 tn) rfl).trans ec
      | cons x w =>
        refine ⟨w, x, tn, ?_, by omega, by omega⟩
        have ep : eLm mPop (eOp dIx (eVar 0) (eC (.str "wide"))) (eC (.int 0)) [.loc 1, .t (.int n), .und] (drM (x :: w) cs 0 tn) = .ok (.t (.int x)) (drM w cs 0 tn) := by
          have em : mPop 0 (((x :: w).map T.int).map D.t) (.t (.int 0)) (drM (x :: w) cs 0 tn) = .ok (.t (.int x)) (drM w cs 0 tn) := by
            have hs : seqIndex? 0 (((x :: w).map T.int).map D.t).length = some 0 := by
              simp [seqIndex?]
            unfold mPop
            simp only [hs]
            rfl
          unfold eLm
          rw [tw]
          exact em
        unfold s_law_take_0
        rw [sIf_t t0']
        refine sSub_ok (v := .t (.int x)) (M1 := drM w cs 0 tn) ?_ rfl rfl (st _ _ _ _ _)
        rw [eIf_t (M1 := drM (x :: w) cs 0 tn) (by rw [t1]; simp)]
        exact ep
    · refine ⟨w, r, tn, ?_, by omega, by omega⟩
      unfold s_law_take_0
      rw [sIf_f (M1 := drM w cs r tn) (by rw [t0]; simp [hr])]
      rfl
  obtain ⟨w1, r1, tn1, e0, h1, h2⟩ := e0
  have e1 : s_law_take_1 [.loc 1, .t (.int n), .und] (drM w1 cs r1 tn1) = .nx [.loc 1, .t (.int n), .t (.int (r1 % n))] (drM w1 cs r1 tn1) := by
    have g1 : eCall fInt (aCons (eOp dIx (eVar 0) (eC (.str "rest"))) aNil) [.loc 1, .t (.int n), .und] (drM w1 cs r1 tn1) = .ok (.t (.int r1)) (drM w1 cs r1 tn1) := by kernel_rfl
    refine sAsg_ok (d := .t (.int (r1 % n))) ?_ rfl
    rw [eOp_ok g1 (e := .t (.int n)) (M2 := drM w1 cs r1 tn1) rfl]
    simp [dMod, hn.1]
  have e2 : s_law_take_2 [.loc 1, .t (.int n), .t (.int (r1 % n))] (drM w1 cs r1 tn1) = .nx [.loc 1, .t (.int n), .t (.int (r1 % n))] (drM w1 cs (r1 / n) tn1) := by
    have g1 : eOp dIx (eVar 0) (eC (.str "rest")) [.loc 1, .t (.int n), .t (.int (r1 % n))] (drM w1 cs r1 tn1) = .ok (.t (.int r1)) (drM w1 cs r1 tn1) := by kernel_rfl
    have st : ∀ x, setB (drM w1 cs r1 tn1) (.loc 1) (.t (.str "rest")) (.t (.int x)) = some (drM w1 cs x tn1) := fun _ => by kernel_rfl
    have g2 : eOp dDiv (eOp dIx (eVar 0) (eC (.str "rest"))) (eVar 1) [.loc 1, .t (.int n), .t (.int (r1 % n))] (drM w1 cs r1 tn1) = .ok (.t (.int (r1 / n))) (drM w1 cs r1 tn1) := by
      rw [eOp_ok g1 (e := .t (.int n)) (M2 := drM w1 cs r1 tn1) rfl]
      simp [dDiv, hn.1, hn.2]
    exact sSub_ok g2 rfl rfl (st _)
  refine ⟨r1 % n, w1, r1 / n, tn1, ?_, Int.emod_nonneg _ (by omega), Int.emod_lt_of_pos _ hn.1, h1, h2⟩
  have e3 : s_law_take [.loc 1, .t (.int n), .und] (drM w cs r tn) = .ret (.t (.int (r1 % n))) (drM w1 cs (r1 / n) tn1) := by
    unfold s_law_take t_law_take_0
    rw [sSeq_nx e0]
    unfold t_law_take_1
    rw [sSeq_nx e1]
    unfold t_law_take_2
    rw [sSeq_nx e2]
    rfl
  have e6 : m_law_take [.loc 1, .t (.int n)] (drM w cs r tn) = finX 2 (endB (s_law_take [.loc 1, .t (.int n), .und] (drM w cs r tn))) := by
    unfold m_law_take; rw [runB_eq]; rfl
  rw [e6, e3]
  exact dr_fin _ _ _ _ _
theorem pick_ok {w cs : List Int} {r tn : Int} (a b c : Int) (ht : 0 ≤ tn ∧ tn < 2 ^ 39) : ∃ x w' r' tn', m_law_pick [.loc 1, .t (.lst [.int a, .int b, .int c])] (drM w cs r tn) = .ok (.t (.int x)) (drM w' cs r' tn') ∧ (x = a ∨ x = b ∨ x = c) ∧ tn ≤ tn' ∧ tn' ≤ tn + 1 := by
  obtain ⟨i, w', r', tn', e, h1, h2, h3, h4⟩ := take_ok (w := w) (cs := cs) (r := r) (tn := tn) (n := 3) ht ⟨by decide, by decide⟩
  have ec := dr_call (n := 2) e rfl rfl
  have hi : i = 0 ∨ i = 1 ∨ i = 2 := by omega
  have e1 : ∃ x, s_law_pick [.loc 1, .t (.lst [.int a, .int b, .int c])] (drM w cs r tn) = .ret (.t (.int x)) (drM w' cs r' tn') ∧ (x = a ∨ x = b ∨ x = c) := by
    have g1 : (aCons (eVar 0) (aCons (eCall fLen (aCons (eVar 1) aNil)) aNil)) [.loc 1, .t (.lst [.int a, .int b, .int c])] (drM w cs r tn) = .ok [.loc 1, .t (.int 3)] (drM w cs r tn) := by kernel_rfl
    have g2 : eFn 2 2 m_law_take [] (aCons (eVar 0) (aCons (eCall fLen (aCons (eVar 1) aNil)) aNil)) [.loc 1, .t (.lst [.int a, .int b, .int c])] (drM w cs r tn) = .ok (.t (.int i)) (drM w' cs r' tn') := by
      unfold eFn
      rw [g1]
      exact ec
    have g3 : s_law_pick [.loc 1, .t (.lst [.int a, .int b, .int c])] (drM w cs r tn) = (dIx (.t (.lst [.int a, .int b, .int c])) (.t (.int i)) (drM w' cs r' tn')).bindS fun d M => .ret d M := by
      unfold s_law_pick s_law_pick_0 sRet
      rw [eOp_ok (d := .t (.lst [.int a, .int b, .int c])) (M1 := drM w cs r tn) rfl g2]
    rw [g3]
    rcases hi with rfl | rfl | rfl
    · exact ⟨a, rfl, .inl rfl⟩
    · exact ⟨b, rfl, .inr (.inl rfl)⟩
    · exact ⟨c, rfl, .inr (.inr rfl)⟩
  obtain ⟨x, e1, hx⟩ := e1
  refine ⟨x, w', r', tn', ?_, hx, h3, h4⟩
  have e6 : m_law_pick [.loc 1, .t (.lst [.int a, .int b, .int c])] (drM w cs r tn) = finX 2 (endB (s_law_pick [.loc 1, .t (.lst [.int a, .int b, .int c])] (drM w cs r tn))) := by
    unfold m_law_pick; rw [runB_eq]; rfl
  rw [e6, e1]
  exact dr_fin _ _ _ _ _
theorem beg_wide {ρ : List D} (hρ : ρ.length = 3) : ∀ (ns acc : List Int), acc.length + ns.length ≤ sizeLine → ∃ w : List Int,
    compS [2] (gN 2) (asT (eOp dGe (eCall fAbs (aCons (eVar 2) aNil)) (eOp dPow (eC (.int 10)) (eC (.int 18))))) (eOp dSub (eCall fAbs (aCons (eVar 2) aNil)) (eOp dPow (eC (.int 10)) (eC (.int 18)))) (fun _ => true) 0 (ns.map fun n => .t (.int n)) ρ [.lst ((acc.map .int).map .t)] = .ok (.loc 0) [.lst ((w.map .int).map .t)]
  | [], acc, _ => ⟨acc, rfl⟩
  | x :: r, acc, h => by
    have hl : acc.length < sizeLine := by simp at h; omega
    obtain ⟨a, b, c, rfl⟩ : ∃ a b c, ρ = [a, b, c] := by
      match ρ, hρ with
      | [a, b, c], _ => exact ⟨a, b, c, rfl⟩
    have e1 : eCall fAbs (aCons (eVar 2) aNil) [a, b, .t (.int x)] [.lst ((acc.map .int).map .t)] = .ok (.t (.int (if x < 0 then -x else x))) [.lst ((acc.map .int).map .t)] := by kernel_rfl
    have e2 : eOp dPow (eC (.int 10)) (eC (.int 18)) [a, b, .t (.int x)] [.lst ((acc.map .int).map .t)] = .ok (.t (.int (10 ^ 18))) [.lst ((acc.map .int).map .t)] := by kernel_rfl
    have e3 : asT (eOp dGe (eCall fAbs (aCons (eVar 2) aNil)) (eOp dPow (eC (.int 10)) (eC (.int 18)))) [a, b, .t (.int x)] [.lst ((acc.map .int).map .t)] = .ok (decide ((10 : Int) ^ 18 ≤ (if x < 0 then -x else x))) [.lst ((acc.map .int).map .t)] := asT_ok (by rw [eOp_ok e1 e2]; rfl)
    have e4 : eOp dSub (eCall fAbs (aCons (eVar 2) aNil)) (eOp dPow (eC (.int 10)) (eC (.int 18))) [a, b, .t (.int x)] [.lst ((acc.map .int).map .t)] = .ok (.t (.int ((if x < 0 then -x else x) - 10 ^ 18))) [.lst ((acc.map .int).map .t)] := by rw [eOp_ok e1 e2]; rfl
    have hg : gN 2 (.t (.int x)) (wipeD [a, b, c] [2]) [.lst ((acc.map .int).map .t)] = some [a, b, .t (.int x)] := rfl
    by_cases hc : (10 : Int) ^ 18 ≤ (if x < 0 then -x else x)
    · obtain ⟨w, ew⟩ := beg_wide (ρ := [a, b, c]) rfl r (acc ++ [(if x < 0 then -x else x) - 10 ^ 18]) (by simp at h ⊢; omega)
      refine ⟨w, ?_⟩
      rw [← ew]
      simp only [List.map_cons, compS, hg, e3, decide_eq_true hc, nb, R.bind, ite_true, e4, List.getElem?_cons_zero, List.length_map, hl, and_self, List.set_cons_zero]
      simp
    · obtain ⟨w, ew⟩ := beg_wide (ρ := [a, b, c]) rfl r acc (by simp at h ⊢; omega)
      refine ⟨w, ?_⟩
      rw [← ew]
      simp only [List.map_cons, compS, hg, e3, decide_eq_false hc, nb, R.bind, Bool.false_eq_true, ite_false, ite_true]
theorem begun_ok (ns : List Int) (h : ns.length ≤ 100) : ∃ w cs, m_law_begun [.t (.scr ns)] [] = .ok (.loc 1) (drM w cs 0 0) := by
  have hz : ns.length ≤ sizeLine := Nat.le_trans h (by decide)
  obtain ⟨w, ew⟩ := beg_wide (ρ := [.t (.scr ns), .und, .und]) rfl ns [] (by simpa using hz)
  have e0 : s_law_begun_0 [.t (.scr ns), .und, .und] [] = .nx [.t (.scr ns), .loc 0, .und] [.lst ((w.map .int).map .t)] := by
    have ew2 : eLcC (iScr (eVar 0)) [2] (gN 2) (asT (eOp dGe (eCall fAbs (aCons (eVar 2) aNil)) (eOp dPow (eC (.int 10)) (eC (.int 18))))) (eOp dSub (eCall fAbs (aCons (eVar 2) aNil)) (eOp dPow (eC (.int 10)) (eC (.int 18)))) [.t (.scr ns), .und, .und] [] = .ok (.loc 0) [.lst ((w.map T.int).map D.t)] := by
      rw [← ew]
      unfold eLcC
      rw [show iScr (eVar 0) [.t (.scr ns), .und, .und] [] = .ok (ns.map fun n => D.t (.int n), fun _ => true) [] from rfl]
      simp [R.bind]
    unfold s_law_begun_0
    rw [sAsg_ok (g := gN 1) ew2 rfl]
    rfl
  have hM : Mem.ok [Cel.lst ((w.map T.int).map .t), .dct []] = true := by
    show (Cel.below 2 (.lst ((w.map .int).map .t)) && _) = true
    have h1 : Cel.below 2 (.lst ((w.map T.int).map .t)) = true := dr_below _ _
    rw [h1]; rfl
  have e1 : eLc (iScr (eVar 0)) [2] (gN 2) fYes (eOp dMod (eCall fInt (aCons (eCall fAbs (aCons (eVar 2) aNil)) aNil)) (eC (.int 2147483629))) [.t (.scr ns), .loc 0, .und] [Cel.lst ((w.map T.int).map .t), .dct []] = .ok (.t (.lst ((ns.map fun n => D.t (.int n)).map fun d => match d with | .t (.int x) => .int ((if x < 0 then -x else x) % 2147483629) | _ => .non))) [Cel.lst ((w.map T.int).map .t), .dct []] := by
    refine eLc_pure (items := ns.map fun n => D.t (.int n)) rfl hM (by simpa using hz) ?_
    intro d hd acc
    obtain ⟨x, hx, rfl⟩ := List.mem_map.1 hd
    exact ⟨[.t (.scr ns), .loc 0, .t (.int x)], rfl, by kernel_rfl⟩
  refine ⟨w, ns.map fun x => (if x < 0 then -x else x) % 2147483629, ?_⟩
  have e1' : (ns.map fun n => D.t (.int n)).map (fun d => match d with | .t (.int x) => T.int ((if x < 0 then -x else x) % 2147483629) | _ => .non) = (ns.map fun x => (if x < 0 then -x else x) % 2147483629).map .int := by simp
  rw [e1'] at e1
  have e2 : s_law_begun_1 [.t (.scr ns), .loc 0, .und] [.lst ((w.map .int).map .t)] = .ret (.loc 1) (drM w (ns.map fun x => (if x < 0 then -x else x) % 2147483629) 0 0) := by
    refine sRet_ok ?_
    unfold eDictC
    simp only [ePairs, List.length_cons, List.length_nil, List.cons_append, List.nil_append]
    simp only [show (eC (.str "wide")) [.t (.scr ns), .loc 0, .und] [Cel.lst ((w.map T.int).map .t), .dct []] = .ok (.t (.str "wide")) [Cel.lst ((w.map T.int).map .t), .dct []] from rfl, show (eVar 1) [.t (.scr ns), .loc 0, .und] [Cel.lst ((w.map T.int).map .t), .dct []] = .ok (.loc 0) [Cel.lst ((w.map T.int).map .t), .dct []] from rfl, show (eC (.str "cells")) [.t (.scr ns), .loc 0, .und] [Cel.lst ((w.map T.int).map .t), .dct []] = .ok (.t (.str "cells")) [Cel.lst ((w.map T.int).map .t), .dct []] from rfl, R.bind, e1]
    rfl
  have e3 : m_law_begun [.t (.scr ns)] [] = endB (s_law_begun [.t (.scr ns), .und, .und] []) := by
    unfold m_law_begun; rw [runB_eq]; rfl
  rw [e3]
  unfold s_law_begun t_law_begun_0
  rw [sSeq_nx e0, e2]
  rfl
end K12
namespace K12
open PySem L2 LL
theorem takeE {fs : FA} {ρ : List D} {M0 : Mem} {w cs : List Int} {r tn n : Int} (hf : fs ρ M0 = .ok [.loc 1, .t (.int n)] (drM w cs r tn)) (ht : 0 ≤ tn ∧ tn < 2 ^ 39) (hn : 0 < n ∧ n.natAbs.log2 < 9000) :
    ∃ x w' r' tn', eFn 2 2 m_law_take [] fs ρ M0 = .ok (.t (.int x)) (drM w' cs r' tn') ∧ 0 ≤ x ∧ x < n ∧ tn ≤ tn' ∧ tn' ≤ tn + 1 := by
  obtain ⟨x, w', r', tn', e, h⟩ := take_ok (w := w) (cs := cs) (r := r) (tn := tn) (n := n) ht hn
  exact ⟨x, w', r', tn', (eFn_ok hf).trans (dr_call (n := 2) e rfl rfl), h⟩
theorem pickE {fs : FA} {ρ : List D} {M0 : Mem} {w cs : List Int} {r tn a b c : Int} (hf : fs ρ M0 = .ok [.loc 1, .t (.lst [.int a, .int b, .int c])] (drM w cs r tn)) (ht : 0 ≤ tn ∧ tn < 2 ^ 39) :
    ∃ x w' r' tn', eFn 2 2 m_law_pick [] fs ρ M0 = .ok (.t (.int x)) (drM w' cs r' tn') ∧ (x = a ∨ x = b ∨ x = c) ∧ tn ≤ tn' ∧ tn' ≤ tn + 1 := by
  obtain ⟨x, w', r', tn', e, h⟩ := pick_ok (w := w) (cs := cs) (r := r) (tn := tn) a b c ht
  exact ⟨x, w', r', tn', (eFn_ok hf).trans (dr_call (n := 2) e rfl rfl), h⟩
abbrev rL (ns : List Int) (a2 a3 a4 a5 a6 a7 a8 a9 a10 a11 a12 a13 : D) : List D := [.t (.scr ns), .loc 1, a2, a3, a4, a5, a6, a7, a8, a9, a10, a11, a12, a13]
variable {ns : List Int} {a2 a3 a4 a5 a6 a7 a8 a9 a10 a11 a12 a13 : D} {w cs : List Int} {r tn : Int}
theorem step0 (ht : 0 ≤ tn ∧ tn < 2 ^ 30) : ∃ (n : Nat) (g : Int) (w' : List Int) (r' tn' : Int), s_law_b0_0 (rL ns a2 a3 a4 a5 a6 a7 a8 a9 a10 a11 a12 a13) (drM w cs r tn) = .nx (rL ns a2 (.t (.int n)) (.t (.int g)) a5 a6 a7 a8 a9 a10 a11 a12 a13) (drM w' cs r' tn') ∧ 1 ≤ n ∧ n ≤ 5 ∧ 0 ≤ g ∧ g < 10 ^ 12 ∧ tn ≤ tn' ∧ tn' ≤ tn + 3 := by
  obtain ⟨x, w1, r1, tn1, e1, h1, h2, h3, h4⟩ := takeE (fs := aCons (eVar 1) (aCons (eC (.int 5)) aNil)) (ρ := rL ns a2 a3 a4 a5 a6 a7 a8 a9 a10 a11 a12 a13) (M0 := drM w cs r tn) (n := 5) rfl (by omega) ⟨by decide, by decide⟩
  obtain ⟨y, w2, r2, tn2, e2, hy, h5, h6⟩ := pickE (fs := aCons (eVar 1) (aCons (eLst (aCons (eC (.int 1)) (aCons (eC (.int 3)) (aCons (eOp dPow (eC (.int 10)) (eC (.int 12))) aNil)))) aNil)) (ρ := rL ns a2 a3 a4 a5 a6 a7 a8 a9 a10 a11 a12 a13) (M0 := drM w1 cs r1 tn1) (w := w1) (cs := cs) (r := r1) (tn := tn1) (a := 1) (b := 3) (c := 10 ^ 12) (by kernel_rfl) (by omega)
  have hy2 : 0 < y ∧ y.natAbs.log2 < 9000 ∧ y ≤ 10 ^ 12 := by rcases hy with rfl | rfl | rfl <;> exact ⟨by decide, by decide, by decide⟩
  obtain ⟨z, w3, r3, tn3, e3, h7, h8, h9, h10⟩ := takeE (fs := aCons (eVar 1) (aCons (eFn 2 2 m_law_pick [] (aCons (eVar 1) (aCons (eLst (aCons (eC (.int 1)) (aCons (eC (.int 3)) (aCons (eOp dPow (eC (.int 10)) (eC (.int 12))) aNil)))) aNil))) aNil)) (ρ := rL ns a2 a3 a4 a5 a6 a7 a8 a9 a10 a11 a12 a13) (M0 := drM w1 cs r1 tn1) (n := y) (aCons_ok (d := .loc 1) (M1 := drM w1 cs r1 tn1) rfl (aCons_ok e2 aNil_ok)) (by omega) ⟨hy2.1, hy2.2.1⟩
  refine ⟨(1 + x).toNat, z, w3, r3, tn3, ?_, by omega, by omega, h7, by omega, by omega, by omega⟩
  have hx : (((1 + x).toNat : Nat) : Int) = 1 + x := by omega
  rw [hx]
  have e4 : eTup (aCons (eOp dAdd (eC (.int 1)) (eFn 2 2 m_law_take [] (aCons (eVar 1) (aCons (eC (.int 5)) aNil)))) (aCons (eFn 2 2 m_law_take [] (aCons (eVar 1) (aCons (eFn 2 2 m_law_pick [] (aCons (eVar 1) (aCons (eLst (aCons (eC (.int 1)) (aCons (eC (.int 3)) (aCons (eOp dPow (eC (.int 10)) (eC (.int 12))) aNil)))) aNil))) aNil))) aNil)) (rL ns a2 a3 a4 a5 a6 a7 a8 a9 a10 a11 a12 a13) (drM w cs r tn) = .ok (.t (.tup [.int (1 + x), .int z])) (drM w3 cs r3 tn3) :=
    eTup_ok (ts := [.int (1 + x), .int z]) (aCons_ok ((eOp_ok (d := .t (.int 1)) (M1 := drM w cs r tn) rfl e1).trans rfl) (aCons_ok e3 aNil_ok)) (by show 2 ≤ sizeLine; decide)
  exact sAsg_ok (g := gT [3, 4]) e4 rfl
theorem step1 {n : Nat} {g : Int} (hn : n ≤ 5) (ht : 0 ≤ tn ∧ tn < 2 ^ 30) : ∃ (t : Int) (w' : List Int) (r' tn' : Int), s_law_b0_1 (rL ns a2 (.t (.int n)) (.t (.int g)) a5 a6 a7 a8 a9 a10 a11 a12 a13) (drM w cs r tn) = .nx (rL ns a2 (.t (.int n)) (.t (.int g)) (.t (.int t)) (.t (.lst ((rgT 0 ((n : Int) + 1)).map .int))) a7 a8 a9 a10 a11 a12 a13) (drM w' cs r' tn') ∧ 0 ≤ t ∧ t < 10 ^ 13 ∧ tn ≤ tn' ∧ tn' ≤ tn + 2 := by
  obtain ⟨y, w2, r2, tn2, e2, hy, h5, h6⟩ := pickE (fs := aCons (eVar 1) (aCons (eLst (aCons (eC (.int 1)) (aCons (eC (.int 9)) (aCons (eOp dPow (eC (.int 10)) (eC (.int 13))) aNil)))) aNil)) (ρ := rL ns a2 (.t (.int n)) (.t (.int g)) a5 a6 a7 a8 a9 a10 a11 a12 a13) (M0 := drM w cs r tn) (w := w) (cs := cs) (r := r) (tn := tn) (a := 1) (b := 9) (c := 10 ^ 13) (by kernel_rfl) (by omega)
  have hy2 : 0 < y ∧ y.natAbs.log2 < 9000 ∧ y ≤ 10 ^ 13 := by rcases hy with rfl | rfl | rfl <;> exact ⟨by decide, by decide, by decide⟩
  obtain ⟨z, w3, r3, tn3, e3, h7, h8, h9, h10⟩ := takeE (fs := aCons (eVar 1) (aCons (eFn 2 2 m_law_pick [] (aCons (eVar 1) (aCons (eLst (aCons (eC (.int 1)) (aCons (eC (.int 9)) (aCons (eOp dPow (eC (.int 10)) (eC (.int 13))) aNil)))) aNil))) aNil)) (ρ := rL ns a2 (.t (.int n)) (.t (.int g)) a5 a6 a7 a8 a9 a10 a11 a12 a13) (M0 := drM w cs r tn) (n := y) (aCons_ok (d := .loc 1) (M1 := drM w cs r tn) rfl (aCons_ok e2 aNil_ok)) (by omega) ⟨hy2.1, hy2.2.1⟩
  refine ⟨z, w3, r3, tn3, ?_, h7, by omega, by omega, by omega⟩
  have hr : rgOk 0 ((n : Int) + 1) = true := by
    unfold rgOk
    exact decide_eq_true ⟨by decide, by decide, by omega, by omega, by omega⟩
  have e4 : eListRg (rg1 (eOp dAdd (eVar 3) (eC (.int 1)))) (rL ns a2 (.t (.int n)) (.t (.int g)) a5 a6 a7 a8 a9 a10 a11 a12 a13) (drM w3 cs r3 tn3) = .ok (.t (.lst ((rgT 0 ((n : Int) + 1)).map .int))) (drM w3 cs r3 tn3) := by
    have e : rg1 (eOp dAdd (eVar 3) (eC (.int 1))) (rL ns a2 (.t (.int n)) (.t (.int g)) a5 a6 a7 a8 a9 a10 a11 a12 a13) (drM w3 cs r3 tn3) = .ok (0, (n : Int) + 1) (drM w3 cs r3 tn3) := rfl
    exact eListRg_ok e hr
  have e5 := eTup_ok (ts := [.int z, .lst ((rgT 0 ((n : Int) + 1)).map .int)]) (M1 := drM w3 cs r3 tn3) (aCons_ok e3 (aCons_ok e4 aNil_ok)) (by show 2 ≤ sizeLine; decide)
  exact sAsg_ok (g := gT [5, 6]) e5 rfl
def tugT : T := .tup [.str "tug", .str "left", .dct [(.inr "f", .int 1)]]
def looT : T := .tup [.str "let", .str "left", .dct [(.inr "f", .int (-1))]]
theorem step2 {ρ : List D} (hρ : ∃ b2 b3 b4 b5 b6 b7 b8 b9 b10 b11 b12 b13, ρ = rL ns b2 b3 b4 b5 b6 b7 b8 b9 b10 b11 b12 b13) : s_law_b0_2 ρ (drM w cs r tn) = .nx ((ρ.set 7 (.t tugT)).set 8 (.t looT)) (drM w cs r tn) := by
  have h1 := eDict1 (k := "f") (f := eC (.int 1)) (x := .int 1) (ρ := ρ) (M := drM w cs r tn) (fun _ => rfl) (dr_ok w cs r tn)
  have h2 := eDict1 (k := "f") (f := eNeg (eC (.int 1))) (x := .int (-1)) (ρ := ρ) (M := drM w cs r tn) (fun _ => rfl) (dr_ok w cs r tn)
  have e1 : eTup (aCons (eC (.str "tug")) (aCons (eC (.str "left")) (aCons (eDict [((eC (.str "f")), (eC (.int 1)))]) aNil))) ρ (drM w cs r tn) = .ok (.t tugT) (drM w cs r tn) := eTup_ok (ts := [.str "tug", .str "left", .dct [(.inr "f", .int 1)]]) (aCons_ok rfl (aCons_ok rfl (aCons_ok h1 aNil_ok))) (by show 3 ≤ sizeLine; decide)
  have e2 : eTup (aCons (eC (.str "let")) (aCons (eC (.str "left")) (aCons (eDict [((eC (.str "f")), (eNeg (eC (.int 1))))]) aNil))) ρ (drM w cs r tn) = .ok (.t looT) (drM w cs r tn) := eTup_ok (ts := [.str "let", .str "left", .dct [(.inr "f", .int (-1))]]) (aCons_ok rfl (aCons_ok rfl (aCons_ok h2 aNil_ok))) (by show 3 ≤ sizeLine; decide)
  unfold s_law_b0_2 sPar
  rw [aCons_ok e1 (aCons_ok e2 aNil_ok)]
  rfl
end K12
namespace K12
open PySem L2 LL
theorem told_step {n : Nat} {g t : Int} {A : List Act} {fs : FA} {due : FE} {ρ : List D} {M : Mem} {xs : List Int} (hf : fs ρ M = .ok [.t (.int n), .t (.lst (A.map aT)), .t (.int g), .t (.int t)] M) (hd : due ρ M = .ok (.t (.lst (xs.map .int))) M) (ht : Told n g t A) (hp : pl n g t A = xs) :
    sIf (asT (eOp dNe (eFn 4 0 m_law_told [] fs) due)) (sRet (eC (.bl false))) sNx ρ M = .nx ρ M := by
  have e1 : eFn 4 0 m_law_told [] fs ρ M = .ok (.t (.lst ((pl n g t A).map .int))) M := (eFn_ok hf).trans (callK0 (n := 4) ht rfl rfl)
  have e2 : eOp dNe (eFn 4 0 m_law_told [] fs) due ρ M = .ok (.t (.bl false)) M := by
    rw [eOp_ok e1 hd, hp]
    exact dNe_same M xs
  rw [sIf_f (asT_ok e2)]
  rfl
variable {ns : List Int} {a2 a7 a8 a9 a10 a11 a12 a13 : D} {w cs : List Int} {r tn : Int} {n : Nat} {g t q : Int}
theorem rg_len (hn : n ≤ 5) : (rgT 0 ((n : Int) + 1)).length ≤ sizeLine := Nat.le_trans (m := 10) (by simp [rgT]; omega) (by decide)
abbrev spT (n : Nat) : D := .t (.lst ((rgT 0 ((n : Int) + 1)).map .int))
abbrev rN (ns : List Int) (a2 : D) (n : Nat) (g t : Int) (a9 a10 a11 a12 a13 : D) : List D := rL ns a2 (.t (.int n)) (.t (.int g)) (.t (.int t)) (spT n) (.t tugT) (.t looT) a9 a10 a11 a12 a13
theorem d3 (hn : n ≤ 5) (hg : 0 ≤ g ∧ g < 10 ^ 12) : eLc (iAny (eVar 6)) [10] (gN 10) fYes (eCall fMax (aCons (eC (.int 0)) (aCons (eOp dSub (eVar 5) (eOp dMul (eVar 4) (eVar 10))) aNil))) (rN ns a2 n g t a9 a10 a11 a12 a13) (drM w cs r tn) = .ok (.t (.lst ((due1 g t n).map .int))) (drM w cs r tn) := by
  refine eLc_ints (xs := rgT 0 ((n : Int) + 1)) (f := fun k => mx 0 (t - g * k)) rfl (dr_ok _ _ _ _) (rg_len hn) fun x hx acc => ?_
  have hm : mulOk g x = true := mulOk_l (by omega)
  simp [wipeD, eCall, aCons, aNil, eC, eOp, eVar, R.bind, dMul, dSub, hm, fMax, mx]
theorem d7 (hn : n ≤ 5) (hg : 0 ≤ g ∧ g < 10 ^ 12) : eLc (iAny (eVar 6)) [10] (gN 10) fYes (eCall fMin (aCons (eCall fMax (aCons (eC (.int 0)) (aCons (eOp dSub (eVar 5) (eOp dMul (eVar 4) (eVar 10))) aNil))) (aCons (eOp dMul (eVar 4) (eVar 10)) aNil))) (rN ns a2 n g t a9 a10 a11 a12 a13) (drM w cs r tn) = .ok (.t (.lst ((due4 g t n).map .int))) (drM w cs r tn) := by
  refine eLc_ints (xs := rgT 0 ((n : Int) + 1)) (f := fun k => mn (mx 0 (t - g * k)) (g * k)) rfl (dr_ok _ _ _ _) (rg_len hn) fun x hx acc => ?_
  have hm : mulOk g x = true := mulOk_l (by omega)
  simp [wipeD, eCall, aCons, aNil, eC, eOp, eVar, R.bind, dMul, dSub, hm, fMax, fMin, mx, mn]
theorem d9 (hn : n ≤ 5) (hg : 0 ≤ g ∧ g < 10 ^ 12) : eLc (iAny (eVar 6)) [10] (gN 10) fYes (eCall fMax (aCons (eC (.int 0)) (aCons (eOp dSub (eVar 5) (eOp dMul (eVar 4) (eCall fMin (aCons (eVar 10) (aCons (eOp dSub (eVar 3) (eVar 10)) aNil))))) aNil))) (rN ns a2 n g t a9 a10 a11 a12 a13) (drM w cs r tn) = .ok (.t (.lst ((due5 g t n).map .int))) (drM w cs r tn) := by
  refine eLc_ints (xs := rgT 0 ((n : Int) + 1)) (f := fun k => mx 0 (t - g * mn k ((n : Int) - k))) rfl (dr_ok _ _ _ _) (rg_len hn) fun x hx acc => ?_
  have hm : ∀ y, mulOk g y = true := fun y => mulOk_l (by omega)
  simp [wipeD, eCall, aCons, aNil, eC, eOp, eVar, R.bind, dMul, dSub, hm, fMax, fMin, mx, mn]
theorem d11 (hn : n ≤ 5) (hg : 0 ≤ g ∧ g < 10 ^ 12) : eLc (iAny (eVar 6)) [10] (gN 10) fYes (eCall fMin (aCons (eC (.int 0)) (aCons (eOp dSub (eOp dMul (eVar 4) (eCall fMin (aCons (eVar 10) (aCons (eOp dSub (eVar 3) (eVar 10)) aNil)))) (eVar 5)) aNil))) (rN ns a2 n g t a9 a10 a11 a12 a13) (drM w cs r tn) = .ok (.t (.lst ((due6 g t n).map .int))) (drM w cs r tn) := by
  refine eLc_ints (xs := rgT 0 ((n : Int) + 1)) (f := fun k => mn 0 (g * mn k ((n : Int) - k) - t)) rfl (dr_ok _ _ _ _) (rg_len hn) fun x hx acc => ?_
  have hm : ∀ y, mulOk g y = true := fun y => mulOk_l (by omega)
  simp [wipeD, eCall, aCons, aNil, eC, eOp, eVar, R.bind, dMul, dSub, hm, fMax, fMin, mx, mn]
  rfl
theorem d14 (hn : n ≤ 5) (hg : 0 ≤ g ∧ g < 10 ^ 12) : eLc (iAny (eVar 6)) [10] (gN 10) fYes (eIf (asT (eOp dLe (eVar 10) (eVar 12))) (eCall fMax (aCons (eC (.int 0)) (aCons (eOp dSub (eVar 5) (eOp dMul (eVar 4) (eVar 10))) aNil))) (eC (.int 0))) (rN ns a2 n g t a9 a10 a11 (.t (.int q)) a13) (drM w cs r tn) = .ok (.t (.lst ((due7 g t n q).map .int))) (drM w cs r tn) := by
  refine eLc_ints (xs := rgT 0 ((n : Int) + 1)) (f := fun k => if k ≤ q then mx 0 (t - g * k) else 0) rfl (dr_ok _ _ _ _) (rg_len hn) fun x hx acc => ?_
  have hm : ∀ y, mulOk g y = true := fun y => mulOk_l (by omega)
  by_cases hq : x ≤ q <;> simp [wipeD, eIf, asT, dCmp, hq, eCall, aCons, aNil, eC, eOp, eVar, R.bind, dMul, dSub, hm, fMax, fMin, mx, mn]
theorem d16 (hn : n ≤ 5) (hg : 0 ≤ g ∧ g < 10 ^ 12) : eLc (iAny (eVar 6)) [10] (gN 10) fYes (eIf (asT (eOp dGe (eVar 10) (eVar 12))) (eCall fMax (aCons (eC (.int 0)) (aCons (eOp dSub (eVar 5) (eOp dMul (eVar 4) (eOp dSub (eVar 3) (eVar 10)))) aNil))) (eC (.int 0))) (rN ns a2 n g t a9 a10 a11 (.t (.int q)) a13) (drM w cs r tn) = .ok (.t (.lst ((due8 g t n q).map .int))) (drM w cs r tn) := by
  refine eLc_ints (xs := rgT 0 ((n : Int) + 1)) (f := fun k => if q ≤ k then mx 0 (t - g * ((n : Int) - k)) else 0) rfl (dr_ok _ _ _ _) (rg_len hn) fun x hx acc => ?_
  have hm : ∀ y, mulOk g y = true := fun y => mulOk_l (by omega)
  by_cases hq : q ≤ x <;> simp [wipeD, eIf, asT, dCmp, hq, eCall, aCons, aNil, eC, eOp, eVar, R.bind, dMul, dSub, hm, fMax, fMin, mx, mn]
theorem enum_eq : ∀ (k : Nat) (xs : List Int), enumT k (xs.map .int) = (enumI (k : Int) xs).map fun p => .tup [.int p.1, .int p.2]
  | _, [] => rfl
  | k, x :: r => by
    have := enum_eq (k + 1) r
    simp only [List.map_cons, enumT, enumI, this]
    rfl
theorem enumI_len : ∀ (k : Int) (xs : List Int), (enumI k xs).length = xs.length
  | _, [] => rfl
  | k, x :: r => by simp [enumI, enumI_len]
theorem due1_len : (due1 g t n).length = n + 1 := by simp [due1, rgT]
theorem d19 (hn : n ≤ 5) (hg : 0 ≤ g ∧ g < 10 ^ 12) : eLc (iEnumD (aCons (eVar 9) aNil)) [10, 11] (gT [10, 11]) fYes (eIf (asT (eOp dLe (eVar 10) (eVar 12))) (eCall fMin (aCons (eVar 11) (aCons (eOp dMul (eVar 4) (eVar 10)) aNil))) (eVar 11)) (rN ns a2 n g t (.t (.lst ((due1 g t n).map .int))) a10 a11 (.t (.int q)) a13) (drM w cs r tn) = .ok (.t (.lst ((due9 g t n q).map .int))) (drM w cs r tn) := by
  have hi : iEnumD (aCons (eVar 9) aNil) (rN ns a2 n g t (.t (.lst ((due1 g t n).map .int))) a10 a11 (.t (.int q)) a13) (drM w cs r tn) = .ok ((enumI 0 (due1 g t n)).map (fun p => D.t (.tup [.int p.1, .int p.2])), fun _ => true) (drM w cs r tn) := by
    unfold iEnumD
    rw [aCons_ok (d := .t (.lst ((due1 g t n).map .int))) (M1 := drM w cs r tn) rfl aNil_ok]
    simp only [R.bind]
    rw [enum_eq]
    simp
  rw [eLc_pure (f := fun d => match d with | .t (.tup [.int i, .int x]) => .int (if i ≤ q then mn x (g * i) else x) | _ => .non) hi (dr_ok _ _ _ _) (by rw [List.length_map, enumI_len, due1_len]; exact Nat.le_trans (m := 10) (by omega) (by decide)) ?_]
  · simp [due9]
  · intro d hd acc
    obtain ⟨p, hp, rfl⟩ := List.mem_map.1 hd
    refine ⟨_, rfl, ?_⟩
    have hm : ∀ y, mulOk g y = true := fun y => mulOk_l (by omega)
    by_cases hq : p.1 ≤ q <;> simp [wipeD, setN, eIf, asT, dCmp, hq, eCall, aCons, aNil, eC, eOp, eVar, R.bind, dMul, dSub, hm, fMax, fMin, mx, mn]
theorem d6 (hn : n ≤ 5) : eLc (iAny (eVar 9)) [11] (gN 11) fYes (eOp dSub (eC (.int 0)) (eVar 11)) (rN ns a2 n g t (.t (.lst ((due1 g t n).map .int))) a10 a11 a12 a13) (drM w cs r tn) = .ok (.t (.lst (((due1 g t n).map fun x => 0 - x).map .int))) (drM w cs r tn) := by
  refine eLc_ints (xs := due1 g t n) (f := fun k => 0 - k) rfl (dr_ok _ _ _ _) (by rw [due1_len]; exact Nat.le_trans (m := 10) (by omega) (by decide)) fun x hx acc => ?_
  simp [wipeD, eC, eOp, eVar, R.bind, dSub]
def slo (g t : Int) (n : Nat) : List Int := (rgT 0 ((n : Int) + 1)).map fun k => 2 * t - g * k
theorem d21 (hn : n ≤ 5) (hg : 0 ≤ g ∧ g < 10 ^ 12) : eLc (iAny (eVar 6)) [10] (gN 10) fYes (eOp dSub (eOp dMul (eC (.int 2)) (eVar 5)) (eOp dMul (eVar 4) (eVar 10))) (rN ns a2 n g t a9 a10 a11 a12 a13) (drM w cs r tn) = .ok (.t (.lst ((slo g t n).map .int))) (drM w cs r tn) := by
  refine eLc_ints (xs := rgT 0 ((n : Int) + 1)) (f := fun k => 2 * t - g * k) rfl (dr_ok _ _ _ _) (rg_len hn) fun x hx acc => ?_
  have hm : mulOk g x = true := mulOk_l (by omega)
  have hm2 : mulOk 2 t = true := mulOk_l (by decide)
  simp [wipeD, eC, eOp, eVar, R.bind, dMul, dSub, hm, hm2]
theorem d22 (hn : n ≤ 5) : eLc (iAny (eVar 13)) [11] (gN 11) fYes (eCall fMax (aCons (eC (.int 0)) (aCons (eVar 11) aNil))) (rN ns a2 n g t a9 a10 a11 a12 (.t (.lst ((slo g t n).map .int)))) (drM w cs r tn) = .ok (.t (.lst ((due10 g t n).map .int))) (drM w cs r tn) := by
  refine eLc_ints (xs := slo g t n) (f := fun k => mx 0 k) rfl (dr_ok _ _ _ _) (by unfold slo; rw [List.length_map]; exact rg_len hn) fun x hx acc => ?_
  simp [wipeD, eC, eCall, aCons, aNil, eOp, eVar, R.bind, fMax, mx]
theorem eDf {ρ : List D} {k : Int} {f : FE} (hf : ∀ M', f ρ M' = .ok (.t (.int k)) M') : eDict [((eC (.str "f")), f)] ρ (drM w cs r tn) = .ok (.t (.dct [(.inr "f", .int k)])) (drM w cs r tn) := eDict1 hf (dr_ok _ _ _ _)
theorem eMv {ρ : List D} {u l : Str} {k : Int} {f : FE} (hf : ∀ M', f ρ M' = .ok (.t (.int k)) M') : eTup (aCons (eC (.str u)) (aCons (eC (.str l)) (aCons (eDict [((eC (.str "f")), f)]) aNil))) ρ (drM w cs r tn) = .ok (.t (.tup [.str u, .str l, .dct [(.inr "f", .int k)]])) (drM w cs r tn) :=
  eTup_ok (ts := [.str u, .str l, .dct [(.inr "f", .int k)]]) (aCons_ok rfl (aCons_ok rfl (aCons_ok (eDf hf) aNil_ok))) (by show 3 ≤ sizeLine; decide)
theorem body_ok (ht : 0 ≤ tn ∧ tn < 2 ^ 20) {a3 a4 a5 a6 a7 a8 a9 a10 a11 a12 a13 : D} : ∃ b3 b4 b5 b6 b7 b8 b9 b10 b11 b12 b13 w' r' tn', t_law_b0_0 (rL ns a2 a3 a4 a5 a6 a7 a8 a9 a10 a11 a12 a13) (drM w cs r tn) = .nx (rL ns a2 b3 b4 b5 b6 b7 b8 b9 b10 b11 b12 b13) (drM w' cs r' tn') ∧ tn ≤ tn' ∧ tn' ≤ tn + 6 := by
  obtain ⟨n, g, w1, r1, tn1, e0, h1, h2, h3, h4, h5, h6⟩ := step0 (ns := ns) (a2 := a2) (a3 := a3) (a4 := a4) (a5 := a5) (a6 := a6) (a7 := a7) (a8 := a8) (a9 := a9) (a10 := a10) (a11 := a11) (a12 := a12) (a13 := a13) (w := w) (cs := cs) (r := r) (tn := tn) (by omega)
  obtain ⟨t, w2, r2, tn2, e1, h7, h8, h9, h10⟩ := step1 (ns := ns) (a2 := a2) (n := n) (g := g) (a5 := a5) (a6 := a6) (a7 := a7) (a8 := a8) (a9 := a9) (a10 := a10) (a11 := a11) (a12 := a12) (a13 := a13) (w := w1) (cs := cs) (r := r1) (tn := tn1) h2 (by omega)
  have e2 : s_law_b0_2 (rL ns a2 (.t (.int n)) (.t (.int g)) (.t (.int t)) (.t (.lst ((rgT 0 ((n : Int) + 1)).map .int))) a7 a8 a9 a10 a11 a12 a13) (drM w2 cs r2 tn2) = .nx (rN ns a2 n g t a9 a10 a11 a12 a13) (drM w2 cs r2 tn2) := step2 (ns := ns) ⟨_, _, _, _, _, _, _, _, _, _, _, _, rfl⟩
  have hg : 0 ≤ g ∧ g < 10 ^ 12 := ⟨h3, h4⟩
  obtain ⟨q, w3, r3, tn3, e13, hq1, hq2, h11, h12⟩ := takeE (fs := aCons (eVar 1) (aCons (eOp dAdd (eVar 3) (eC (.int 1))) aNil)) (ρ := rN ns a2 n g t (.t (.lst ((due6 g t n).map .int))) a10 a11 a12 a13) (M0 := drM w2 cs r2 tn2) (w := w2) (cs := cs) (r := r2) (tn := tn2) (n := (n : Int) + 1) rfl (by omega) ⟨by omega, by
    have : ((n : Int) + 1).natAbs = n + 1 := by omega
    rw [this]
    have : n + 1 ≤ 6 := by omega
    exact Nat.lt_of_le_of_lt (Nat.log2_le_self _) (by omega)⟩
  obtain ⟨k, rfl⟩ : ∃ k : Nat, q = (k : Int) := ⟨q.toNat, by omega⟩
  have hk : k ≤ n := by omega
  have e3 : s_law_b0_3 (rN ns a2 n g t a9 a10 a11 a12 a13) (drM w2 cs r2 tn2) = .nx (rN ns a2 n g t (.t (.lst ((due1 g t n).map .int))) a10 a11 a12 a13) (drM w2 cs r2 tn2) := sAsg_ok (g := gN 9) (d3 h2 hg) rfl
  have e4 : s_law_b0_4 (rN ns a2 n g t (.t (.lst ((due1 g t n).map .int))) a10 a11 a12 a13) (drM w2 cs r2 tn2) = .nx (rN ns a2 n g t (.t (.lst ((due1 g t n).map .int))) a10 a11 a12 a13) (drM w2 cs r2 tn2) := told_step (A := A1) rfl rfl (td1 h3 n h1 h2) (pe1 h3 h7 n h1 h2)
  have e5 : s_law_b0_5 (rN ns a2 n g t (.t (.lst ((due1 g t n).map .int))) a10 a11 a12 a13) (drM w2 cs r2 tn2) = .nx (rN ns a2 n g t (.t (.lst ((due1 g t n).map .int))) a10 a11 a12 a13) (drM w2 cs r2 tn2) := told_step (A := A2) (xs := (due1 g t n).reverse) (aCons_ok rfl (aCons_ok (eLst_ok (ts := [aT (.mv true false [1])]) (aCons_ok (eMv fun _ => rfl) aNil_ok) (by show 1 ≤ sizeLine; decide)) (aCons_ok rfl (aCons_ok rfl aNil_ok)))) (by
      have e : eRev (eVar 9) (rN ns a2 n g t (.t (.lst ((due1 g t n).map .int))) a10 a11 a12 a13) (drM w2 cs r2 tn2) = .ok (.t (.lst (((due1 g t n).map T.int).reverse))) (drM w2 cs r2 tn2) := by
        unfold eRev
        rw [show (eVar 9) (rN ns a2 n g t (.t (.lst ((due1 g t n).map .int))) a10 a11 a12 a13) (drM w2 cs r2 tn2) = .ok (.t (.lst ((due1 g t n).map .int))) (drM w2 cs r2 tn2) from rfl]
        simp only [R.bind, asL, asTs_map]
      rw [e, List.map_reverse]) (td2 h3 n h1 h2) (pe2 h3 h7 n h1 h2)
  have e6 : s_law_b0_6 (rN ns a2 n g t (.t (.lst ((due1 g t n).map .int))) a10 a11 a12 a13) (drM w2 cs r2 tn2) = .nx (rN ns a2 n g t (.t (.lst ((due1 g t n).map .int))) a10 a11 a12 a13) (drM w2 cs r2 tn2) := told_step (A := A3) rfl (d6 h2) (td3 h3 n h1 h2) (pe3 h3 h7 n h1 h2)
  have e7 : s_law_b0_7 (rN ns a2 n g t (.t (.lst ((due1 g t n).map .int))) a10 a11 a12 a13) (drM w2 cs r2 tn2) = .nx (rN ns a2 n g t (.t (.lst ((due4 g t n).map .int))) a10 a11 a12 a13) (drM w2 cs r2 tn2) := sAsg_ok (g := gN 9) (d7 h2 hg) rfl
  have e8 : s_law_b0_8 (rN ns a2 n g t (.t (.lst ((due4 g t n).map .int))) a10 a11 a12 a13) (drM w2 cs r2 tn2) = .nx (rN ns a2 n g t (.t (.lst ((due4 g t n).map .int))) a10 a11 a12 a13) (drM w2 cs r2 tn2) := told_step (A := A4) rfl rfl (td4 h3 n h1 h2) (pe4 h3 h7 n h1 h2)
  have e9 : s_law_b0_9 (rN ns a2 n g t (.t (.lst ((due4 g t n).map .int))) a10 a11 a12 a13) (drM w2 cs r2 tn2) = .nx (rN ns a2 n g t (.t (.lst ((due5 g t n).map .int))) a10 a11 a12 a13) (drM w2 cs r2 tn2) := sAsg_ok (g := gN 9) (d9 h2 hg) rfl
  have e10 : s_law_b0_10 (rN ns a2 n g t (.t (.lst ((due5 g t n).map .int))) a10 a11 a12 a13) (drM w2 cs r2 tn2) = .nx (rN ns a2 n g t (.t (.lst ((due5 g t n).map .int))) a10 a11 a12 a13) (drM w2 cs r2 tn2) := told_step (A := A5) (aCons_ok rfl (aCons_ok (eLst_ok (ts := [aT (.mv true true [1]), aT (.mv true false [1])]) (aCons_ok rfl (aCons_ok (eMv fun _ => rfl) aNil_ok)) (by show 2 ≤ sizeLine; decide)) (aCons_ok rfl (aCons_ok rfl aNil_ok)))) rfl (td5 h3 n h1 h2) (pe5 h3 h7 n h1 h2)
  have e11 : s_law_b0_11 (rN ns a2 n g t (.t (.lst ((due5 g t n).map .int))) a10 a11 a12 a13) (drM w2 cs r2 tn2) = .nx (rN ns a2 n g t (.t (.lst ((due6 g t n).map .int))) a10 a11 a12 a13) (drM w2 cs r2 tn2) := sAsg_ok (g := gN 9) (d11 h2 hg) rfl
  have e12 : s_law_b0_12 (rN ns a2 n g t (.t (.lst ((due6 g t n).map .int))) a10 a11 a12 a13) (drM w2 cs r2 tn2) = .nx (rN ns a2 n g t (.t (.lst ((due6 g t n).map .int))) a10 a11 a12 a13) (drM w2 cs r2 tn2) := told_step (A := A6) (aCons_ok rfl (aCons_ok (eLst_ok (ts := [aT (.mv false true [-1]), aT (.mv false false [-1])]) (aCons_ok rfl (aCons_ok (eMv fun _ => rfl) aNil_ok)) (by show 2 ≤ sizeLine; decide)) (aCons_ok rfl (aCons_ok rfl aNil_ok)))) rfl (td6 h3 n h1 h2) (pe6 h3 h7 n h1 h2)
  have e13' : s_law_b0_13 (rN ns a2 n g t (.t (.lst ((due6 g t n).map .int))) a10 a11 a12 a13) (drM w2 cs r2 tn2) = .nx (rN ns a2 n g t (.t (.lst ((due6 g t n).map .int))) a10 a11 (.t (.int k)) a13) (drM w3 cs r3 tn3) := sAsg_ok (g := gN 12) e13 rfl
  have e14 : s_law_b0_14 (rN ns a2 n g t (.t (.lst ((due6 g t n).map .int))) a10 a11 (.t (.int k)) a13) (drM w3 cs r3 tn3) = .nx (rN ns a2 n g t (.t (.lst ((due7 g t n k).map .int))) a10 a11 (.t (.int k)) a13) (drM w3 cs r3 tn3) := sAsg_ok (g := gN 9) (d14 h2 hg) rfl
  have e15 : s_law_b0_15 (rN ns a2 n g t (.t (.lst ((due7 g t n k).map .int))) a10 a11 (.t (.int k)) a13) (drM w3 cs r3 tn3) = .nx (rN ns a2 n g t (.t (.lst ((due7 g t n k).map .int))) a10 a11 (.t (.int k)) a13) (drM w3 cs r3 tn3) := told_step (A := A7 k) rfl rfl (td7 h3 n k h1 h2 hk) (pe7 h3 h7 n k h1 h2 hk)
  have e16 : s_law_b0_16 (rN ns a2 n g t (.t (.lst ((due7 g t n k).map .int))) a10 a11 (.t (.int k)) a13) (drM w3 cs r3 tn3) = .nx (rN ns a2 n g t (.t (.lst ((due8 g t n k).map .int))) a10 a11 (.t (.int k)) a13) (drM w3 cs r3 tn3) := sAsg_ok (g := gN 9) (d16 h2 hg) rfl
  have e17 : s_law_b0_17 (rN ns a2 n g t (.t (.lst ((due8 g t n k).map .int))) a10 a11 (.t (.int k)) a13) (drM w3 cs r3 tn3) = .nx (rN ns a2 n g t (.t (.lst ((due8 g t n k).map .int))) a10 a11 (.t (.int k)) a13) (drM w3 cs r3 tn3) := told_step (A := A8 k) (aCons_ok rfl (aCons_ok (eLst_ok (ts := [aT (.tie k), aT (.mv true false [1])]) (aCons_ok rfl (aCons_ok (eMv fun _ => rfl) aNil_ok)) (by show 2 ≤ sizeLine; decide)) (aCons_ok rfl (aCons_ok rfl aNil_ok)))) rfl (td8 h3 n k h1 h2 hk) (pe8 h3 h7 n k h1 h2 hk)
  have e18 : s_law_b0_18 (rN ns a2 n g t (.t (.lst ((due8 g t n k).map .int))) a10 a11 (.t (.int k)) a13) (drM w3 cs r3 tn3) = .nx (rN ns a2 n g t (.t (.lst ((due1 g t n).map .int))) a10 a11 (.t (.int k)) a13) (drM w3 cs r3 tn3) := sAsg_ok (g := gN 9) (d3 h2 hg) rfl
  have e19 : s_law_b0_19 (rN ns a2 n g t (.t (.lst ((due1 g t n).map .int))) a10 a11 (.t (.int k)) a13) (drM w3 cs r3 tn3) = .nx (rN ns a2 n g t (.t (.lst ((due9 g t n k).map .int))) a10 a11 (.t (.int k)) a13) (drM w3 cs r3 tn3) := sAsg_ok (g := gN 9) (d19 h2 hg) rfl
  have e20 : s_law_b0_20 (rN ns a2 n g t (.t (.lst ((due9 g t n k).map .int))) a10 a11 (.t (.int k)) a13) (drM w3 cs r3 tn3) = .nx (rN ns a2 n g t (.t (.lst ((due9 g t n k).map .int))) a10 a11 (.t (.int k)) a13) (drM w3 cs r3 tn3) := told_step (A := A9 k) rfl rfl (td9 h3 n k h1 h2 hk) (pe9 h3 h7 n k h1 h2 hk)
  have e21 : s_law_b0_21 (rN ns a2 n g t (.t (.lst ((due9 g t n k).map .int))) a10 a11 (.t (.int k)) a13) (drM w3 cs r3 tn3) = .nx (rN ns a2 n g t (.t (.lst ((due9 g t n k).map .int))) a10 a11 (.t (.int k)) (.t (.lst ((slo g t n).map .int)))) (drM w3 cs r3 tn3) := sAsg_ok (g := gN 13) (d21 h2 hg) rfl
  have e22 : s_law_b0_22 (rN ns a2 n g t (.t (.lst ((due9 g t n k).map .int))) a10 a11 (.t (.int k)) (.t (.lst ((slo g t n).map .int)))) (drM w3 cs r3 tn3) = .nx (rN ns a2 n g t (.t (.lst ((due9 g t n k).map .int))) a10 a11 (.t (.int k)) (.t (.lst ((slo g t n).map .int)))) (drM w3 cs r3 tn3) := told_step (A := A10) (aCons_ok rfl (aCons_ok (eLst_ok (ts := [aT (.mv true true [1]), aT (.mv true true [2]), aT (.mv true true [1])]) (aCons_ok rfl (aCons_ok (eMv fun _ => rfl) (aCons_ok rfl aNil_ok))) (by show 3 ≤ sizeLine; decide)) (aCons_ok rfl (aCons_ok rfl aNil_ok)))) (d22 h2) (td10 h3 n h1 h2) (pe10 h3 h7 n h1 h2)
  refine ⟨.t (.int n), .t (.int g), .t (.int t), spT n, .t tugT, .t looT, .t (.lst ((due9 g t n k).map .int)), a10, a11, .t (.int k), .t (.lst ((slo g t n).map .int)), w3, r3, tn3, ?_, by omega, by omega⟩
  unfold t_law_b0_0; rw [sSeq_nx e0]
  unfold t_law_b0_1; rw [sSeq_nx e1]
  unfold t_law_b0_2; rw [sSeq_nx e2]
  unfold t_law_b0_3; rw [sSeq_nx e3]
  unfold t_law_b0_4; rw [sSeq_nx e4]
  unfold t_law_b0_5; rw [sSeq_nx e5]
  unfold t_law_b0_6; rw [sSeq_nx e6]
  unfold t_law_b0_7; rw [sSeq_nx e7]
  unfold t_law_b0_8; rw [sSeq_nx e8]
  unfold t_law_b0_9; rw [sSeq_nx e9]
  unfold t_law_b0_10; rw [sSeq_nx e10]
  unfold t_law_b0_11; rw [sSeq_nx e11]
  unfold t_law_b0_12; rw [sSeq_nx e12]
  unfold t_law_b0_13; rw [sSeq_nx e13']
  unfold t_law_b0_14; rw [sSeq_nx e14]
  unfold t_law_b0_15; rw [sSeq_nx e15]
  unfold t_law_b0_16; rw [sSeq_nx e16]
  unfold t_law_b0_17; rw [sSeq_nx e17]
  unfold t_law_b0_18; rw [sSeq_nx e18]
  unfold t_law_b0_19; rw [sSeq_nx e19]
  unfold t_law_b0_20; rw [sSeq_nx e20]
  unfold t_law_b0_21; rw [sSeq_nx e21]
  exact e22
theorem law_ok (ns : List Int) (h : ns.length ≤ 100) : m_law [.t (.scr ns)] [] = .ok (.t (.bl true)) [] := by
  obtain ⟨w, cs, e0⟩ := begun_ok ns h
  have e1 : s_law_0 [.t (.scr ns), .und, .und, .und, .und, .und, .und, .und, .und, .und, .und, .und, .und, .und] [] = .nx (rL ns .und .und .und .und .und .und .und .und .und .und .und .und) (drM w cs 0 0) := by
    refine sAsg_ok (g := gN 1) (d := .loc 1) ?_ rfl
    refine (eFn_ok (ds := [.t (.scr ns)]) (M1 := []) rfl).trans ?_
    unfold callK
    rw [if_pos ⟨rfl, Nat.zero_le _, rfl, rfl⟩, show ([] : Mem).take 0 = [] from rfl, e0]
    show (if 0 ≤ (drM w cs 0 0).length then R.ok (D.loc 1) (backM 0 [] (drM w cs 0 0)) else .bad) = _
    rw [if_pos (Nat.zero_le _)]
    have e : backM 0 [] (drM w cs 0 0) = drM w cs 0 0 := by
      show [Cel.lst ((((w.map T.int).map D.t)).map (fun d => d.sh 0 0)), _] = _
      rw [sh_t]; rfl
    rw [e]
  have e2 : ∃ ρ' M', s_law_1 (rL ns .und .und .und .und .und .und .und .und .und .und .und .und) (drM w cs 0 0) = .nx ρ' M' ∧ ∃ w' r' tn', M' = drM w' cs r' tn' := by
    have hL : aCons (eOp dAdd (eC (.int 5)) (eCall fMin (aCons (eCall fLen (aCons (eVar 0) aNil)) (aCons (eC (.int 20)) aNil)))) aNil (rL ns .und .und .und .und .und .und .und .und .und .und .und .und) (drM w cs 0 0) = .ok [.t (.int (5 + (if (20 : Int) < (ns.length : Int) then 20 else (ns.length : Int))))] (drM w cs 0 0) := by rfl
    have hr : -(2 ^ 62) ≤ 5 + (if (20 : Int) < (ns.length : Int) then 20 else (ns.length : Int)) ∧ 5 + (if (20 : Int) < (ns.length : Int) then 20 else (ns.length : Int)) < 2 ^ 62 := by
      split <;> omega
    have hlen : (rgT 0 (5 + (if (20 : Int) < (ns.length : Int) then 20 else (ns.length : Int)))).length ≤ 25 := by
      simp only [rgT, List.length_map, List.length_range]
      split <;> omega
    generalize 5 + (if (20 : Int) < (ns.length : Int) then 20 else (ns.length : Int)) = m at hL hr hlen
    have hi : iRg1 (aCons (eOp dAdd (eC (.int 5)) (eCall fMin (aCons (eCall fLen (aCons (eVar 0) aNil)) (aCons (eC (.int 20)) aNil)))) aNil) (rL ns .und .und .und .und .und .und .und .und .und .und .und .und) (drM w cs 0 0) = .ok ((rgT 0 m).map fun n => D.t (.int n), fun _ => true) (drM w cs 0 0) := by
      unfold iRg1
      rw [hL]
      simp only [R.bind]
      rw [if_pos hr]
    obtain ⟨ρ', M', e, b2, b3, b4, b5, b6, b7, b8, b9, b10, b11, b12, b13, w', r', tn', e3, e4, _⟩ := loop_inv (g := gN 2) (body := t_law_b0_0) (I := fun k ρ M => ∃ b2 b3 b4 b5 b6 b7 b8 b9 b10 b11 b12 b13 w' r' tn', ρ = rL ns b2 b3 b4 b5 b6 b7 b8 b9 b10 b11 b12 b13 ∧ M = drM w' cs r' tn' ∧ 0 ≤ tn' ∧ tn' + 6 * (k : Int) ≤ 150) ((rgT 0 m).map fun n => D.t (.int n)) (rL ns .und .und .und .und .und .und .und .und .und .und .und .und) (drM w cs 0 0) ⟨_, _, _, _, _, _, _, _, _, _, _, _, w, 0, 0, rfl, rfl, by decide, by rw [List.length_map]; omega⟩ (by
        rintro d hd k ρ M ⟨b2, b3, b4, b5, b6, b7, b8, b9, b10, b11, b12, b13, w', r', tn', rfl, rfl, h1, h2⟩
        obtain ⟨c3, c4, c5, c6, c7, c8, c9, c10, c11, c12, c13, w2, r2, tn2, e, h3, h4⟩ := body_ok (ns := ns) (a2 := d) (a3 := b3) (a4 := b4) (a5 := b5) (a6 := b6) (a7 := b7) (a8 := b8) (a9 := b9) (a10 := b10) (a11 := b11) (a12 := b12) (a13 := b13) (w := w') (cs := cs) (r := r') (tn := tn') ⟨h1, by omega⟩
        exact ⟨_, rfl, _, _, e, _, _, _, _, _, _, _, _, _, _, _, _, w2, r2, tn2, rfl, rfl, by omega, by omega⟩)
    refine ⟨ρ', M', ?_, w', r', tn', e4⟩
    unfold s_law_1 sFor
    rw [hi]
    exact e
  obtain ⟨ρ', M', e2, w', r', tn', rfl⟩ := e2
  have e3 : m_law [.t (.scr ns)] [] = finX 0 (endB (s_law [.t (.scr ns), .und, .und, .und, .und, .und, .und, .und, .und, .und, .und, .und, .und, .und] [])) := by
    unfold m_law; rw [runB_eq]; rfl
  rw [e3]
  unfold s_law t_law_0
  rw [sSeq_nx e1]
  unfold t_law_1
  rw [sSeq_nx e2]
  rfl
end K12
namespace K12
open PySem PySem.Spec PyProof.Rows L2 LL
abbrev Rw : PySem.W.OpenRow := PySem.W.OpenLaw.row PySem.Challenge.rw_looselaces_k12_pulls_known_by_hand
abbrev hk : PySem.W.Hook := hookY 5 hd
def ob (s : PySem.W.SharedT) : AlY := obsYG 5 hd (HandSHeadRun.getT s)
theorem ob_eq (s : PySem.W.SharedT) : ob s = hk.obs s.abs := obsYG_eq (HandSHeadRun.getT_eq s)
def loose : List Str := ((["_wall", "__name__", "LaceError", "BadWorld", "BadPowers", "BadLace", "BadDeed", "BadState", "TooMany", "LETTERS", "LONGEST_NAME", "MOST_GRIPS", "MOST_FORCES", "MOST_FACTS", "MOST_EXPONENT", "is_number", "is_list", "is_name", "are_names", "is_product_of", "is_small_of", "is_fact_of", "in_order", "times", "World", "from_one", "worth_by", "are_powers", "need_powers", "MOST_EYES"] : List Str) ++ (["MOST_DEEDS", "LEFT", "RIGHT", "TUG", "LET", "TIE", "Lace", "need_lace", "is_move", "is_deed", "own_deed", "reach_of", "way_of", "State", "need_state", "pulls", "_law_begun", "_law_mixed", "_law_take", "_law_pick", "_law_told"] : List Str))
theorem run (w : World) : HandSHeadRun.RunEq Rw (PySem.W.view Rw.prog [54]) hk ob 15000 loose w := by
  intro os
  kernel_rfl
end K12
open PySem PySem.W PySem.Calls PyProof.Rows
namespace K12
open L2 LL
theorem law_sp {K : PySem.W.Frag} {H : Hp} {a : Addr} {ns : List Int} (hl : ns.length ≤ 100) (hS : SqL K H a (ns.map V.int)) : spOf K (cls K) (xcl K) 1 m_law [.ref a] H (fun v _ => v = .bl true) fun _ _ _ => False := by
  refine ⟨fun _ => True, [], [], [.t (.scr ns)], rfl, ⟨rfl, List.nodup_nil, (fun n a d h _ => by simp at h), fun _ _ => trivial⟩, ⟨.ref a, [], rfl, ?_, rfl⟩, ?_⟩
  · show RepT _ (.scr ns) (.ref a)
    simp only [RepT]
    refine ⟨a, rfl, ?_⟩
    rcases hS with h | h
    · exact .inl ⟨h, by exact ⟨(fun z => nomatch z), trivial⟩⟩
    · exact .inr fun H => .inr h
  · rw [law_ok ns hl]
    intro al' H' s c v hv
    exact rep_bl hv
theorem facts {P : Program} {w : World} {K : PySem.W.Frag} {h : Heap} {mg : Str → Option Value} {f : Addr} (X : K.In h) (G : h.Ns mainGlobals mg) (hfa : mg ("law" : Str) = some (.ref f)) (c : SaysY hd K) :
    ∃ fd : FuncData, (∀ (s : Shared) (v : Value), BindsTo s fd ⟨[v], []⟩ [("_law_script", v)]) ∧ ∀ base : Heap, K.In base → base.Ns mainGlobals mg → FnOk P w K mg base CXe 9 f fd ["_law_script"] (spOf K (cls K) (xcl K) 1 m_law) := by
  have g := Gx.of X G c
  have gl : mg ("law" : Str) = some (.ref (He.ga K "law")) := g.g_law
  have e := hfa.symm.trans gl
  cases e
  have b := FunD.bindsA (ps := ["_law_script"]) g.F_law fun _ _ _ _ _ _ us hl => match us, hl with | [_], _ => rfl
  exact ⟨_, fun s v => b s [v] rfl, fun base _ _ => fn_cx (ok_law g)⟩
end K12
theorem PySem.Challenge.cw_looselaces_k12_pulls_known_by_hand_holds : PySem.Challenge.rw_looselaces_k12_pulls_known_by_hand.Holds := by
  w_on; o_law
  refine HandSHeadRun.head_any (r := OpenLaw.row PySem.Challenge.rw_looselaces_k12_pulls_known_by_hand) (q := view (OpenLaw.row PySem.Challenge.rw_looselaces_k12_pulls_known_by_hand).prog [54]) (H := K12.hk) (ob := K12.ob) (M := 15000) (loose := K12.loose) (d := HandSHeadRun.topDef (OpenLaw.row PySem.Challenge.rw_looselaces_k12_pulls_known_by_hand).prog 54) (kwd := []) K12.ob_eq
    (by kernel_rfl) (fun s => by kernel_rfl) K12.run (by kernel_rfl) (by kernel_rfl) (by kernel_rfl) (by rfl) (by first | assumption | decide +kernel) (by decide +kernel) ⟨rfl, rfl, rfl, rfl, rfl, by decide +kernel⟩ ?hw ?hc
  case hw => w_witness2
  case hc =>
    refine L2.walk_ofE (l := PySem.Challenge.rw_looselaces_k12_pulls_known_by_hand) (n := 63) (k := 9) (x := "_law_script") (CX := LL.CXe) rfl (by decide) (by kernel_rfl) ⟨rfl, by decide, by decide⟩ ?F LL.cxe_no
    intro w mg fa h Y G hmg0
    obtain ⟨K, KX, c⟩ := Y
    have hmg : mg ("law" : PySem.Str) = some (.ref fa) := by
      have e : (HandSHeadRun.topDef (OpenLaw.row PySem.Challenge.rw_looselaces_k12_pulls_known_by_hand).prog 54).name = ("law" : PySem.Str) := by kernel_rfl
      rw [← e]
      exact hmg0
    obtain ⟨fd, hb, hF⟩ := K12.facts (P := (PySem.Challenge.rw_looselaces_k12_pulls_known_by_hand).prog) (w := w) KX G hmg c
    exact ⟨K, fd, _, KX, hb, fun H a ns hl _ hS => K12.law_sp (Nat.le_trans hl (by decide)) hS, hF⟩
