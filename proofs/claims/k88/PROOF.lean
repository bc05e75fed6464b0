import PyProof.Rows.All
import HandS.ForMost
import HandS.Wide
import HandS.WideBits
import HandS.IsInst
import HandS.Deep
import HandS.TupMul
import HandS.TupAny
import HandS.Codes
import HandS.Steps
import HandS.Style
import HandS.More
import HandS.Strs
import HandS.Replace
import HandS.Conv
import HandS.SortInts
import HandS.SortKw
import HandS.Zip
import KE.GoesZip
import KE.GoesMore
import KE.GoesEnum
import HandS.NoneIn
import HandS.Exc
import KE.KDictZip
import HandS.DictComp
import HandS.Defaults
import HandS.HeadHook2
import HandS.Head2
import HandS.HeadEnd
import PySem.Challenge.RW_faceonface_k88_whole_told_lists_of_books
set_option Elab.async false
set_option linter.all false
set_option linter.all false
set_option maxRecDepth 100000
namespace MM
open PySem L2

/-- deep data; `ptr n` is the n-th object of the abstract heap -/
inductive D where
  | non | bl (b : Bool) | int (i : Int) | str (x : Str)
  | tup (l : List D) | lst (l : List D) | scr (l : List D)
  | dic (l : List (Key × D)) | dct (l : List (List Key × D))
  | ins (c : Str) (f : List (Str × D))
  | ptr (n : Nat)
  deriving Inhabited

/-- a mutable object -/
inductive AO where
  | lst (l : List D) | dic (l : List (Key × D)) | dct (l : List (List Key × D)) | ins (c : Str) (f : List (Str × D)) | gone
  deriving Inhabited

abbrev AH := List AO
abbrev DL := List (Option D)

mutual
/-- every ptr below n -/
def D.bd (n : Nat) : D → Bool
  | .tup l => D.bds n l
  | .lst l => D.bds n l
  | .scr l => D.bds n l
  | .dic l => D.bdK n l
  | .dct l => D.bdT n l
  | .ins _ f => D.bdF n f
  | .ptr m => decide (m < n)
  | _ => true
def D.bds (n : Nat) : List D → Bool
  | [] => true
  | d :: r => D.bd n d && D.bds n r
def D.bdK (n : Nat) : List (Key × D) → Bool
  | [] => true
  | (_, d) :: r => D.bd n d && D.bdK n r
def D.bdT (n : Nat) : List (List Key × D) → Bool
  | [] => true
  | (_, d) :: r => D.bd n d && D.bdT n r
def D.bdF (n : Nat) : List (Str × D) → Bool
  | [] => true
  | (_, d) :: r => D.bd n d && D.bdF n r
end
mutual
def D.beq : D → D → Bool
  | .non, .non => true
  | .bl a, .bl b => a == b
  | .int a, .int b => a == b
  | .str a, .str b => decide (a = b)
  | .tup l, .tup m => D.beqs l m
  | .lst l, .lst m => D.beqs l m
  | .scr l, .scr m => D.beqs l m
  | .dic l, .dic m => D.beqK l m
  | .dct l, .dct m => D.beqT l m
  | .ins c f, .ins d g => decide (c = d) && D.beqF f g
  | .ptr a, .ptr b => a == b
  | _, _ => false
def D.beqs : List D → List D → Bool
  | [], [] => true
  | d :: r, e :: t => D.beq d e && D.beqs r t
  | _, _ => false
def D.beqK : List (Key × D) → List (Key × D) → Bool
  | [], [] => true
  | (k, d) :: r, (j, e) :: t => decide (k = j) && (D.beq d e && D.beqK r t)
  | _, _ => false
def D.beqT : List (List Key × D) → List (List Key × D) → Bool
  | [], [] => true
  | (k, d) :: r, (j, e) :: t => decide (k = j) && (D.beq d e && D.beqT r t)
  | _, _ => false
def D.beqF : List (Str × D) → List (Str × D) → Bool
  | [], [] => true
  | (k, d) :: r, (j, e) :: t => decide (k = j) && (D.beq d e && D.beqF r t)
  | _, _ => false
end
mutual
theorem D.beq_eq : ∀ (d e : D), D.beq d e = true → d = e
  | .non, e, h => by cases e <;> simp [D.beq] at h ⊢
  | .bl a, e, h => by cases e <;> simp [D.beq] at h ⊢ <;> exact h
  | .int a, e, h => by cases e <;> simp [D.beq] at h ⊢ <;> exact h
  | .str a, e, h => by cases e <;> simp [D.beq] at h ⊢ <;> exact h
  | .tup l, e, h => by
    cases e with
    | tup m => rw [D.beqs_eq l m (by simpa [D.beq] using h)]
    | _ => simp [D.beq] at h
  | .lst l, e, h => by
    cases e with
    | lst m => rw [D.beqs_eq l m (by simpa [D.beq] using h)]
    | _ => simp [D.beq] at h
  | .scr l, e, h => by
    cases e with
    | scr m => rw [D.beqs_eq l m (by simpa [D.beq] using h)]
    | _ => simp [D.beq] at h
  | .dic l, e, h => by
    cases e with
    | dic m => rw [D.beqK_eq l m (by simpa [D.beq] using h)]
    | _ => simp [D.beq] at h
  | .dct l, e, h => by
    cases e with
    | dct m => rw [D.beqT_eq l m (by simpa [D.beq] using h)]
    | _ => simp [D.beq] at h
  | .ins c f, e, h => by
    cases e with
    | ins d g =>
      simp only [D.beq, Bool.and_eq_true, decide_eq_true_eq] at h
      rw [h.1, D.beqF_eq f g h.2]
    | _ => simp [D.beq] at h
  | .ptr a, e, h => by cases e <;> simp [D.beq] at h ⊢ <;> exact h
theorem D.beqs_eq : ∀ (l m : List D), D.beqs l m = true → l = m
  | [], m, h => by cases m <;> simp [D.beqs] at h ⊢
  | d :: r, m, h => by
    cases m with
    | nil => simp [D.beqs] at h
    | cons e t =>
      simp only [D.beqs, Bool.and_eq_true] at h
      rw [D.beq_eq d e h.1, D.beqs_eq r t h.2]
theorem D.beqK_eq : ∀ (l m : List (Key × D)), D.beqK l m = true → l = m
  | [], m, h => by cases m <;> simp [D.beqK] at h ⊢
  | (k, d) :: r, m, h => by
    cases m with
    | nil => simp [D.beqK] at h
    | cons p t =>
      obtain ⟨j, e⟩ := p
      simp only [D.beqK, Bool.and_eq_true, decide_eq_true_eq] at h
      rw [h.1, D.beq_eq d e h.2.1, D.beqK_eq r t h.2.2]
theorem D.beqT_eq : ∀ (l m : List (List Key × D)), D.beqT l m = true → l = m
  | [], m, h => by cases m <;> simp [D.beqT] at h ⊢
  | (k, d) :: r, m, h => by
    cases m with
    | nil => simp [D.beqT] at h
    | cons p t =>
      obtain ⟨j, e⟩ := p
      simp only [D.beqT, Bool.and_eq_true, decide_eq_true_eq] at h
      rw [h.1, D.beq_eq d e h.2.1, D.beqT_eq r t h.2.2]
theorem D.beqF_eq : ∀ (l m : List (Str × D)), D.beqF l m = true → l = m
  | [], m, h => by cases m <;> simp [D.beqF] at h ⊢
  | (k, d) :: r, m, h => by
    cases m with
    | nil => simp [D.beqF] at h
    | cons p t =>
      obtain ⟨j, e⟩ := p
      simp only [D.beqF, Bool.and_eq_true, decide_eq_true_eq] at h
      rw [h.1, D.beq_eq d e h.2.1, D.beqF_eq r t h.2.2]
end
mutual
theorem D.beq_refl : ∀ d : D, D.beq d d = true
  | .non => by simp [D.beq]
  | .bl a => by simp [D.beq]
  | .int a => by simp [D.beq]
  | .str a => by simp [D.beq]
  | .tup l => by simpa [D.beq] using D.beqs_refl l
  | .lst l => by simpa [D.beq] using D.beqs_refl l
  | .scr l => by simpa [D.beq] using D.beqs_refl l
  | .dic l => by simpa [D.beq] using D.beqK_refl l
  | .dct l => by simpa [D.beq] using D.beqT_refl l
  | .ins c f => by simpa [D.beq] using D.beqF_refl f
  | .ptr a => by simp [D.beq]
theorem D.beqs_refl : ∀ l : List D, D.beqs l l = true
  | [] => by simp [D.beqs]
  | d :: r => by simp [D.beqs, D.beq_refl d, D.beqs_refl r]
theorem D.beqK_refl : ∀ l : List (Key × D), D.beqK l l = true
  | [] => by simp [D.beqK]
  | (k, d) :: r => by simp [D.beqK, D.beq_refl d, D.beqK_refl r]
theorem D.beqT_refl : ∀ l : List (List Key × D), D.beqT l l = true
  | [] => by simp [D.beqT]
  | (k, d) :: r => by simp [D.beqT, D.beq_refl d, D.beqT_refl r]
theorem D.beqF_refl : ∀ l : List (Str × D), D.beqF l l = true
  | [] => by simp [D.beqF]
  | (k, d) :: r => by simp [D.beqF, D.beq_refl d, D.beqF_refl r]
end
instance : DecidableEq D := fun d e => if h : D.beq d e = true then .isTrue (D.beq_eq d e h) else .isFalse fun q => h (by rw [q]; exact D.beq_refl e)
instance : DecidableEq AO := fun
  | .lst a, .lst b => if h : a = b then .isTrue (by rw [h]) else .isFalse fun q => h (AO.lst.inj q)
  | .dic a, .dic b => if h : a = b then .isTrue (by rw [h]) else .isFalse fun q => h (AO.dic.inj q)
  | .dct a, .dct b => if h : a = b then .isTrue (by rw [h]) else .isFalse fun q => h (AO.dct.inj q)
  | .ins c a, .ins d b => if h : c = d ∧ a = b then .isTrue (by rw [h.1, h.2]) else .isFalse fun q => h ⟨(AO.ins.inj q).1, (AO.ins.inj q).2⟩
  | .gone, .gone => .isTrue rfl
  | .lst _, .dic _ => .isFalse fun q => nomatch q
  | .lst _, .dct _ => .isFalse fun q => nomatch q
  | .lst _, .ins _ _ => .isFalse fun q => nomatch q
  | .lst _, .gone => .isFalse fun q => nomatch q
  | .dic _, .lst _ => .isFalse fun q => nomatch q
  | .dic _, .dct _ => .isFalse fun q => nomatch q
  | .dic _, .ins _ _ => .isFalse fun q => nomatch q
  | .dic _, .gone => .isFalse fun q => nomatch q
  | .dct _, .lst _ => .isFalse fun q => nomatch q
  | .dct _, .dic _ => .isFalse fun q => nomatch q
  | .dct _, .ins _ _ => .isFalse fun q => nomatch q
  | .dct _, .gone => .isFalse fun q => nomatch q
  | .ins _ _, .lst _ => .isFalse fun q => nomatch q
  | .ins _ _, .dic _ => .isFalse fun q => nomatch q
  | .ins _ _, .dct _ => .isFalse fun q => nomatch q
  | .ins _ _, .gone => .isFalse fun q => nomatch q
  | .gone, .lst _ => .isFalse fun q => nomatch q
  | .gone, .dic _ => .isFalse fun q => nomatch q
  | .gone, .dct _ => .isFalse fun q => nomatch q
  | .gone, .ins _ _ => .isFalse fun q => nomatch q

/-- the state: avoided addresses, where the abstract objects stand, the abstract heap, the hand layer's heap -/
structure S where
  B : Addr → Prop
  ι : List Addr
  ah : AH
  H : Hp
def live (s : S) (a : Addr) : Prop := ∃ (n : Nat) (o : AO), s.ι[n]? = some a ∧ s.ah[n]? = some o ∧ o ≠ .gone
def av (s : S) (a : Addr) : Prop := live s a ∨ s.B a

/-- what is fixed: the written part, where the classes stand -/
structure Gx where
  K : PySem.W.Frag
  cl : Str → Option Addr

mutual
inductive DV (G : Gx) (s : S) : D → V → Prop
  | non : DV G s .non .non
  | bl (b : Bool) : DV G s (.bl b) (.bl b)
  | int (i : Int) : DV G s (.int i) (.int i)
  | str (x : Str) : DV G s (.str x) (.str x)
  | ptr {n : Nat} {a : Addr} (h : s.ι[n]? = some a) : DV G s (.ptr n) (.ref a)
  | tup {l : List D} {a : Addr} {vs : List V} (h : Rd s.H a (.tup vs)) (nl : ¬ av s a) (hs : DVs G s l vs) : DV G s (.tup l) (.ref a)
  | tupK {l : List D} {a : Addr} {vs : List V} {o : Obj} {its : Array Value} {n : Nat} (h : G.K.lookup a = some o) (h1 : o.cls = .type "tuple") (h2 : o.data = .seq its n) (h3 : its.size ≤ sizeLine) (h4 : Vals vs its.toList) (hs : DVs G s l vs) : DV G s (.tup l) (.ref a)
  | lst {l : List D} {a : Addr} {vs : List V} (h : s.H a = some (.lst vs)) (nl : ¬ av s a) (hs : DVs G s l vs) : DV G s (.lst l) (.ref a)
  | scr {l : List D} {a : Addr} {vs : List V} (h : Rd s.H a (.lst vs)) (nl : ¬ av s a) (hs : DVs G s l vs) : DV G s (.scr l) (.ref a)
  | scrK {l : List D} {a : Addr} {vs : List V} (h : ∃ (o : Obj) (its : Array Value) (n : Nat), G.K.lookup a = some o ∧ o.cls = .type "list" ∧ o.dict = none ∧ o.data = .seq its n ∧ its.size ≤ sizeLine ∧ Vals vs its.toList) (hs : DVs G s l vs) : DV G s (.scr l) (.ref a)
  | dic {l : List (Key × D)} {a : Addr} {kvs : List (Key × V)} (h : Rd s.H a (.dK kvs)) (nl : ¬ av s a) (hk : kvs.map (·.1) = l.map (·.1)) (hs : DVs G s (l.map (·.2)) (kvs.map (·.2))) : DV G s (.dic l) (.ref a)
  | dct {l : List (List Key × D)} {a : Addr} {kvs : List (List Key × V)} (h : Rd s.H a (.dT kvs)) (nl : ¬ av s a) (hk : kvs.map (·.1) = l.map (·.1)) (hs : DVs G s (l.map (·.2)) (kvs.map (·.2))) : DV G s (.dct l) (.ref a)
  | ins {c : Str} {f : List (Str × D)} {a C dx : Addr} {fs : List (Str × V)} (h : s.H a = some (.ins C dx fs)) (hc : G.cl c = some C) (nl : ¬ av s a) (hk : fs.map (·.1) = f.map (·.1)) (hs : DVs G s (f.map (·.2)) (fs.map (·.2))) : DV G s (.ins c f) (.ref a)
inductive DVs (G : Gx) (s : S) : List D → List V → Prop
  | nil : DVs G s [] []
  | cons {d : D} {l : List D} {v : V} {vs : List V} : DV G s d v → DVs G s l vs → DVs G s (d :: l) (v :: vs)
end

def OV (G : Gx) (s : S) (a : Addr) : AO → Prop
  | .gone => True
  | .lst l => ∃ vs, s.H a = some (.lst vs) ∧ DVs G s l vs
  | .dic l => ∃ kvs, s.H a = some (.dK kvs) ∧ kvs.map (·.1) = l.map (·.1) ∧ DVs G s (l.map (·.2)) (kvs.map (·.2))
  | .dct l => ∃ kvs, s.H a = some (.dT kvs) ∧ kvs.map (·.1) = l.map (·.1) ∧ DVs G s (l.map (·.2)) (kvs.map (·.2))
  | .ins c f => ∃ C dx fs, G.cl c = some C ∧ s.H a = some (.ins C dx fs) ∧ fs.map (·.1) = f.map (·.1) ∧ DVs G s (f.map (·.2)) (fs.map (·.2))

structure Ok (G : Gx) (s : S) : Prop where
  len : s.ι.length = s.ah.length
  inj : ∀ (i j : Nat) a, s.ι[i]? = some a → s.ι[j]? = some a → i = j
  ne : ∀ (n : Nat) a, s.ι[n]? = some a → s.H a ≠ none
  nb : ∀ a, s.B a → s.H a ≠ none
  dj : ∀ (n : Nat) a, s.ι[n]? = some a → ¬ s.B a
  obj : ∀ (n : Nat) a o, s.ι[n]? = some a → s.ah[n]? = some o → OV G s a o

/-- as it was; a dict may have been locked -/
def Kept (o : HO) (x : Option HO) : Prop := x = some o ∨ ∃ od kvs, o = .dK kvs ∧ x = some (.frz od o)
theorem Kept.of {o : HO} {x : Option HO} (h : Kept o x) (n : ∀ kvs, o ≠ .dK kvs) : x = some o := h.elim id fun ⟨_, kvs, e, _⟩ => absurd e (n kvs)
theorem Kept.ne {o : HO} {x : Option HO} (h : Kept o x) : x ≠ none := by
  rcases h with h | ⟨_, _, _, h⟩ <;> rw [h] <;> exact fun q => nomatch q
theorem Kept.trans {o : HO} {x y : Option HO} (h : Kept o x) (k : ∀ u, x = some u → Kept u y) : Kept o y := by
  rcases h with h | ⟨od, kvs, e, h⟩
  · exact k _ h
  · exact .inr ⟨od, kvs, e, (k _ h).of fun _ q => nomatch q⟩
theorem Kept.rd {H H' : Hp} {a : Addr} {u : HO} (e : Rd H a u) (k : ∀ o, H a = some o → Kept o (H' a)) : Rd H' a u := by
  rcases e with e | ⟨o, e⟩
  · rcases k _ e with h | ⟨od, kvs, _, h⟩
    · exact .inl h
    · exact .inr ⟨od, h⟩
  · exact .inr ⟨o, (k _ e).of fun _ q => nomatch q⟩
/-- what data needs to stand: nothing that it leans on is touched -/
structure Gr (s s' : S) : Prop where
  pre : ∀ (n : Nat) a, s.ι[n]? = some a → s'.ι[n]? = some a
  keep : ∀ a o, s.H a = some o → ¬ av s a → Kept o (s'.H a)
  nav : ∀ a, av s' a → av s a ∨ s.H a = none
theorem Gr.refl {s : S} : Gr s s := ⟨fun _ _ h => h, fun _ _ h _ => .inl h, fun _ h => .inl h⟩
theorem Gr.not {s s' : S} (h : Gr s s') {a : Addr} {o : HO} (e : s.H a = some o) (n : ¬ av s a) : ¬ av s' a := fun l => by
  rcases h.nav a l with l | q
  · exact n l
  · rw [e] at q; cases q
theorem Gr.trans {s s1 s2 : S} (h1 : Gr s s1) (h2 : Gr s1 s2) : Gr s s2 where
  pre := fun n a h => h2.pre n a (h1.pre n a h)
  keep := fun a o h n => (h1.keep a o h n).trans fun u e => h2.keep a u e (h1.not h n)
  nav := fun a l => by
    by_cases hn : s.H a = none
    · exact .inr hn
    · obtain ⟨o, ho⟩ := Option.ne_none_iff_exists'.mp hn
      by_cases hv : av s a
      · exact .inl hv
      · rcases h2.nav a l with l | q
        · exact absurd l (h1.not ho hv)
        · exact absurd q (h1.keep a o ho hv).ne
theorem Gr.rd {s s' : S} (h : Gr s s') {a : Addr} {u : HO} (e : Rd s.H a u) (n : ¬ av s a) : Rd s'.H a u ∧ ¬ av s' a := by
  refine ⟨Kept.rd e fun o q => h.keep a o q n, ?_⟩
  rcases e with e | ⟨o, e⟩
  · exact h.not e n
  · exact h.not e n
mutual
theorem DV.mono {G : Gx} {s s' : S} (h : Gr s s') : ∀ {d : D} {v : V}, DV G s d v → DV G s' d v
  | _, _, .non => .non
  | _, _, .bl b => .bl b
  | _, _, .int i => .int i
  | _, _, .str x => .str x
  | _, _, .ptr e => .ptr (h.pre _ _ e)
  | _, _, .tup e n hs => .tup (h.rd e n).1 (h.rd e n).2 (DVs.mono h hs)
  | _, _, .tupK a b c d e hs => .tupK a b c d e (DVs.mono h hs)
  | _, _, .lst e n hs => .lst ((h.keep _ _ e n).of fun _ q => nomatch q) (h.not e n) (DVs.mono h hs)
  | _, _, .scr e n hs => .scr (h.rd e n).1 (h.rd e n).2 (DVs.mono h hs)
  | _, _, .scrK e hs => .scrK e (DVs.mono h hs)
  | _, _, .dic e n hk hs => .dic (h.rd e n).1 (h.rd e n).2 hk (DVs.mono h hs)
  | _, _, .dct e n hk hs => .dct (h.rd e n).1 (h.rd e n).2 hk (DVs.mono h hs)
  | _, _, .ins e hc n hk hs => .ins ((h.keep _ _ e n).of fun _ q => nomatch q) hc (h.not e n) hk (DVs.mono h hs)
theorem DVs.mono {G : Gx} {s s' : S} (h : Gr s s') : ∀ {l : List D} {vs : List V}, DVs G s l vs → DVs G s' l vs
  | _, _, .nil => .nil
  | _, _, .cons a b => .cons (DV.mono h a) (DVs.mono h b)
end

/-- steps of the state -/
structure Le (G : Gx) (s s' : S) : Prop where
  b : s'.B = s.B
  pre : ∀ (n : Nat) a, s.ι[n]? = some a → s'.ι[n]? = some a
  keep : ∀ a o, s.H a = some o → ¬ live s a → Kept o (s'.H a)
  newl : ∀ a, live s' a → live s a ∨ s.H a = none
  some : ∀ a, s.H a ≠ none → s'.H a ≠ none
  ok : Ok G s'
theorem Le.gr {G : Gx} {s s' : S} (h : Le G s s') : Gr s s' := ⟨h.pre, fun a o e n => h.keep a o e fun q => n (.inl q), fun a l => by
  rcases l with l | l
  · rcases h.newl a l with l | q
    · exact .inl (.inl l)
    · exact .inr q
  · rw [h.b] at l
    exact .inl (.inr l)⟩
theorem Le.refl {G : Gx} {s : S} (h : Ok G s) : Le G s s := ⟨rfl, fun _ _ h => h, fun _ _ h _ => .inl h, fun _ h => .inl h, fun _ h => h, h⟩
theorem Le.trans {G : Gx} {s s1 s2 : S} (h1 : Le G s s1) (h2 : Le G s1 s2) : Le G s s2 where
  b := h2.b.trans h1.b
  pre := fun n a h => h2.pre n a (h1.pre n a h)
  keep := fun a o h nl => (h1.keep a o h nl).trans fun u e => h2.keep a u e fun l => (h1.newl a l).elim nl fun q => by rw [h] at q; cases q
  newl := fun a l => by
    rcases h2.newl a l with l | q
    · exact h1.newl a l
    · by_cases h : s.H a = none
      · exact .inr h
      · exact absurd q (h1.some a h)
  some := fun a h => h2.some a (h1.some a h)
  ok := h2.ok
theorem DV.le {G : Gx} {s s' : S} (h : Le G s s') {d : D} {v : V} (x : DV G s d v) : DV G s' d v := x.mono h.gr
theorem DVs.le {G : Gx} {s s' : S} (h : Le G s s') {d : List D} {v : List V} (x : DVs G s d v) : DVs G s' d v := x.mono h.gr
theorem OV.mono {G : Gx} {s s' : S} (h : Gr s s') {a : Addr} (e : ∀ o, s.H a = some o → s'.H a = some o) : ∀ {o : AO}, OV G s a o → OV G s' a o
  | .gone, _ => trivial
  | .lst _, ⟨vs, x, y⟩ => ⟨vs, e _ x, y.mono h⟩
  | .dic _, ⟨vs, x, z, y⟩ => ⟨vs, e _ x, z, y.mono h⟩
  | .dct _, ⟨vs, x, z, y⟩ => ⟨vs, e _ x, z, y.mono h⟩
  | .ins _ _, ⟨C, dx, fs, x, y, z, w⟩ => ⟨C, dx, fs, x, e _ y, z, w.mono h⟩
theorem Ok.nav {G : Gx} {s : S} (h : Ok G s) {p : Addr} (n : s.H p = none) : ¬ av s p := by
  rintro (⟨k, o, e, _, _⟩ | l)
  · exact h.ne k p e n
  · exact h.nb p l n
/-! ### the steps -/
def S.up (s : S) (p : Addr) (o : HO) : S := { s with H := upd s.H p o }
/-- a new object that is not mutable -/
theorem le_new {G : Gx} {s : S} (h : Ok G s) {p : Addr} (n : s.H p = none) (o : HO) : Le G s (s.up p o) := by
  have k : ∀ a u, s.H a = some u → (s.up p o).H a = some u := fun a u e => by
    show upd s.H p o a = some u
    rw [upd_ne (ne_of_none e n)]
    exact e
  have k' : ∀ a, s.H a ≠ none → (s.up p o).H a ≠ none := fun a q => by
    obtain ⟨u, hu⟩ := Option.ne_none_iff_exists'.mp q
    rw [k a u hu]
    exact fun z => by cases z
  have g : Gr s (s.up p o) := ⟨fun _ _ h => h, fun a u e _ => .inl (k a u e), fun _ h => .inl h⟩
  exact ⟨rfl, fun _ _ h => h, fun a u e _ => .inl (k a u e), fun _ h => .inl h, k', ⟨h.len, h.inj, fun i a e => k' a (h.ne i a e), fun a e => k' a (h.nb a e), h.dj, fun i a u e1 e2 => (h.obj i a u e1 e2).mono g fun u => k a u⟩⟩
/-- a new mutable object -/
def S.add (s : S) (p : Addr) (u : AO) (o : HO) : S := { s with ι := s.ι ++ [p], ah := s.ah ++ [u], H := upd s.H p o }
theorem gr_add {G : Gx} {s : S} (h : Ok G s) {p : Addr} (n : s.H p = none) (u : AO) (o : HO) : Gr s (s.add p u o) := by
  refine ⟨fun i a e => ?_, fun a v e _ => ?_, fun a l => ?_⟩
  · show (s.ι ++ [p])[i]? = some a
    rw [List.getElem?_append_left (List.getElem?_eq_some_iff.mp e).1]
    exact e
  · refine .inl ?_
    show upd s.H p o a = some v
    rw [upd_ne (ne_of_none e n)]
    exact e
  · rcases l with ⟨i, v, e1, e2, e3⟩ | l
    · have e1 : (s.ι ++ [p])[i]? = some a := e1
      have e2 : (s.ah ++ [u])[i]? = some v := e2
      by_cases hi : i < s.ι.length
      · rw [List.getElem?_append_left hi] at e1
        rw [List.getElem?_append_left (h.len ▸ hi)] at e2
        exact .inl (.inl ⟨i, v, e1, e2, e3⟩)
      · rw [List.getElem?_append_right (Nat.le_of_not_lt hi)] at e1
        have : a = p := by
          cases q : i - s.ι.length with
          | zero => rw [q] at e1; simpa using e1.symm
          | succ m => rw [q] at e1; simp at e1
        exact .inr (this ▸ n)
    · exact .inl (.inr l)
theorem le_add {G : Gx} {s : S} (h : Ok G s) {p : Addr} (n : s.H p = none) {u : AO} {o : HO} (ov : OV G (s.add p u o) p u) : Le G s (s.add p u o) := by
  have g := gr_add h n u o
  have k : ∀ a v, s.H a = some v → (s.add p u o).H a = some v := fun a v e => by
    show upd s.H p o a = some v
    rw [upd_ne (ne_of_none e n)]
    exact e
  have k' : ∀ a, s.H a ≠ none → (s.add p u o).H a ≠ none := fun a q => by
    obtain ⟨v, hu⟩ := Option.ne_none_iff_exists'.mp q
    rw [k a v hu]
    exact fun z => by cases z
  have split : ∀ (i : Nat) a, (s.ι ++ [p])[i]? = some a → (i < s.ι.length ∧ s.ι[i]? = some a) ∨ (i = s.ι.length ∧ a = p) := fun i a e => by
    by_cases hi : i < s.ι.length
    · rw [List.getElem?_append_left hi] at e
      exact .inl ⟨hi, e⟩
    · rw [List.getElem?_append_right (Nat.le_of_not_lt hi)] at e
      cases q : i - s.ι.length with
      | zero =>
        rw [q] at e
        exact .inr ⟨by omega, by simpa using e.symm⟩
      | succ m => rw [q] at e; simp at e
  refine ⟨rfl, g.pre, fun a v e _ => .inl (k a v e), fun a l => ?_, k', ⟨?_, ?_, ?_, fun a e => k' a (h.nb a e), ?_, ?_⟩⟩
  · obtain ⟨i, v, e1, e2, e3⟩ := l
    rcases split i a e1 with ⟨hi, e⟩ | ⟨_, rfl⟩
    · have e2 : (s.ah ++ [u])[i]? = some v := e2
      rw [List.getElem?_append_left (h.len ▸ hi)] at e2
      exact .inl ⟨i, v, e, e2, e3⟩
    · exact .inr n
  · show (s.ι ++ [p]).length = (s.ah ++ [u]).length
    simp [h.len]
  · intro i j a e1 e2
    rcases split i a e1 with ⟨_, e⟩ | ⟨hi, ei⟩
    · rcases split j a e2 with ⟨_, f⟩ | ⟨_, fj⟩
      · exact h.inj i j a e f
      · exact absurd n (fj ▸ h.ne i a e)
    · rcases split j a e2 with ⟨_, f⟩ | ⟨hj, _⟩
      · exact absurd n (ei ▸ h.ne j a f)
      · omega
  · intro i a e
    rcases split i a e with ⟨_, e⟩ | ⟨_, rfl⟩
    · exact k' a (h.ne i a e)
    · show upd s.H a o a ≠ none
      rw [upd_same]
      exact fun z => by cases z
  · intro i a e
    rcases split i a e with ⟨_, e⟩ | ⟨_, rfl⟩
    · exact h.dj i a e
    · exact fun b => h.nb a b n
  · intro i a v e1 e2
    have e2 : (s.ah ++ [u])[i]? = some v := e2
    rcases split i a e1 with ⟨hi, e⟩ | ⟨hi, rfl⟩
    · rw [List.getElem?_append_left (h.len ▸ hi)] at e2
      exact (h.obj i a v e e2).mono g fun w => k a w
    · have : v = u := by
        have e2 : (s.ah ++ [u])[i]? = some v := e2
        rw [List.getElem?_append_right (by rw [hi, h.len]; exact Nat.le_refl _)] at e2
        rw [hi, h.len, Nat.sub_self] at e2
        simpa using e2.symm
      rw [this]
      exact ov
/-- a mutable object is written (or let go of: u = .gone) -/
def S.put (s : S) (n : Nat) (a : Addr) (u : AO) (o : HO) : S := { s with ah := s.ah.set n u, H := upd s.H a o }
theorem gr_put {s : S} {n : Nat} {a : Addr} {old : AO} (e : s.ι[n]? = some a) (e' : s.ah[n]? = some old) (nl : old ≠ .gone) (u : AO) (o : HO) : Gr s (s.put n a u o) := by
  refine ⟨fun _ _ h => h, fun b v eb n' => ?_, fun b l => ?_⟩
  · refine .inl ?_
    show upd s.H a o b = some v
    rw [upd_ne fun q => n' (.inl ⟨n, old, by rw [q]; exact e, e', nl⟩)]
    exact eb
  · rcases l with ⟨i, v, e1, e2, e3⟩ | l
    · have e1 : s.ι[i]? = some b := e1
      have e2 : (s.ah.set n u)[i]? = some v := e2
      by_cases hi : n = i
      · subst hi
        exact .inl (.inl ⟨n, old, e1, e', nl⟩)
      · rw [List.getElem?_set_ne hi] at e2
        exact .inl (.inl ⟨i, v, e1, e2, e3⟩)
    · exact .inl (.inr l)
theorem le_put {G : Gx} {s : S} (h : Ok G s) {n : Nat} {a : Addr} {old : AO} (e : s.ι[n]? = some a) (e' : s.ah[n]? = some old) (nl : old ≠ .gone) {u : AO} {o : HO} (ov : OV G (s.put n a u o) a u) : Le G s (s.put n a u o) := by
  have g := gr_put e e' nl u o
  have k : ∀ b v, b ≠ a → s.H b = some v → (s.put n a u o).H b = some v := fun b v q eb => by
    show upd s.H a o b = some v
    rw [upd_ne q]
    exact eb
  have k' : ∀ b, s.H b ≠ none → (s.put n a u o).H b ≠ none := fun b q => by
    by_cases hb : b = a
    · show upd s.H a o b ≠ none
      rw [hb, upd_same]
      exact fun z => by cases z
    · obtain ⟨v, hu⟩ := Option.ne_none_iff_exists'.mp q
      rw [k b v hb hu]
      exact fun z => by cases z
  refine ⟨rfl, g.pre, fun b v eb n' => .inl (k b v (fun q => n' ⟨n, old, by rw [q]; exact e, e', nl⟩) eb), fun b l => ?_, k', ⟨by rw [show (s.put n a u o).ah = s.ah.set n u from rfl, List.length_set]; exact h.len, h.inj, fun i b eb => k' b (h.ne i b eb), fun b eb => k' b (h.nb b eb), h.dj, fun i b v e1 e2 => ?_⟩⟩
  · obtain ⟨i, v, e1, e2, e3⟩ := l
    have e1 : s.ι[i]? = some b := e1
    have e2 : (s.ah.set n u)[i]? = some v := e2
    by_cases hi : n = i
    · subst hi
      exact .inl ⟨n, old, e1, e', nl⟩
    · rw [List.getElem?_set_ne hi] at e2
      exact .inl ⟨i, v, e1, e2, e3⟩
  · have e2 : (s.ah.set n u)[i]? = some v := e2
    have e1 : s.ι[i]? = some b := e1
    by_cases hi : n = i
    · subst hi
      rw [List.getElem?_set_self (by rw [← h.len]; exact (List.getElem?_eq_some_iff.mp e).1)] at e2
      rw [← Option.some.inj e2, show b = a from Option.some.inj (e1.symm.trans e)]
      exact ov
    · rw [List.getElem?_set_ne hi] at e2
      exact (h.obj i b v e1 e2).mono g fun w => k b w fun q => hi (h.inj n i a e (q ▸ e1))
/-- let go: the object stands as data from here on -/
def S.fre (s : S) (n : Nat) : S := { s with ah := s.ah.set n .gone }
theorem le_fre {G : Gx} {s : S} (h : Ok G s) {n : Nat} {a : Addr} {old : AO} (e : s.ι[n]? = some a) (e' : s.ah[n]? = some old) (nl : old ≠ .gone) : Le G s (s.fre n) ∧ ¬ av (s.fre n) a := by
  have lv : ∀ b, live (s.fre n) b → live s b ∧ b ≠ a := fun b l => by
    obtain ⟨i, v, e1, e2, e3⟩ := l
    have e1 : s.ι[i]? = some b := e1
    have e2 : (s.ah.set n .gone)[i]? = some v := e2
    by_cases hi : n = i
    · subst hi
      rw [List.getElem?_set_self (by rw [← h.len]; exact (List.getElem?_eq_some_iff.mp e).1)] at e2
      exact absurd (Option.some.inj e2).symm e3
    · rw [List.getElem?_set_ne hi] at e2
      exact ⟨⟨i, v, e1, e2, e3⟩, fun q => hi (h.inj n i a e (q ▸ e1))⟩
  have g : Gr s (s.fre n) := ⟨fun _ _ h => h, fun _ _ e _ => .inl e, fun b l => by
    rcases l with l | l
    · exact .inl (.inl (lv b l).1)
    · exact .inl (.inr l)⟩
  refine ⟨⟨rfl, fun _ _ h => h, fun _ _ e _ => .inl e, fun b l => .inl (lv b l).1, fun _ h => h, ⟨by rw [show (s.fre n).ah = s.ah.set n .gone from rfl, List.length_set]; exact h.len, h.inj, h.ne, h.nb, h.dj, fun i b v e1 e2 => ?_⟩⟩, ?_⟩
  · have e2 : (s.ah.set n .gone)[i]? = some v := e2
    have e1 : s.ι[i]? = some b := e1
    by_cases hi : n = i
    · subst hi
      rw [List.getElem?_set_self (by rw [← h.len]; exact (List.getElem?_eq_some_iff.mp e).1)] at e2
      rw [← Option.some.inj e2]
      trivial
    · rw [List.getElem?_set_ne hi] at e2
      exact (h.obj i b v e1 e2).mono g fun w q => q
  · rintro (l | l)
    · exact (lv a l).2 rfl
    · exact h.dj n a e l

/-! ### objects at the end are let go of -/
theorem bdK_eq (n : Nat) : ∀ l : List (Key × D), D.bdK n l = D.bds n (l.map (·.2))
  | [] => rfl
  | (_, d) :: r => by rw [D.bdK, bdK_eq n r]; rfl
theorem bdT_eq (n : Nat) : ∀ l : List (List Key × D), D.bdT n l = D.bds n (l.map (·.2))
  | [] => rfl
  | (_, d) :: r => by rw [D.bdT, bdT_eq n r]; rfl
theorem bdF_eq (n : Nat) : ∀ l : List (Str × D), D.bdF n l = D.bds n (l.map (·.2))
  | [] => rfl
  | (_, d) :: r => by rw [D.bdF, bdF_eq n r]; rfl
mutual
theorem DV.bd {G : Gx} {s : S} : ∀ {d : D} {v : V}, DV G s d v → D.bd s.ι.length d = true
  | _, _, .non => rfl
  | _, _, .bl b => rfl
  | _, _, .int i => rfl
  | _, _, .str x => rfl
  | _, _, .ptr e => by rw [D.bd]; exact decide_eq_true (List.getElem?_eq_some_iff.mp e).1
  | _, _, .tup e n hs => by rw [D.bd]; exact DVs.bd hs
  | _, _, .tupK a b c d e hs => by rw [D.bd]; exact DVs.bd hs
  | _, _, .lst e n hs => by rw [D.bd]; exact DVs.bd hs
  | _, _, .scr e n hs => by rw [D.bd]; exact DVs.bd hs
  | _, _, .scrK e hs => by rw [D.bd]; exact DVs.bd hs
  | _, _, .dic e n hk hs => by rw [D.bd, bdK_eq]; exact DVs.bd hs
  | _, _, .dct e n hk hs => by rw [D.bd, bdT_eq]; exact DVs.bd hs
  | _, _, .ins e hc n hk hs => by rw [D.bd, bdF_eq]; exact DVs.bd hs
theorem DVs.bd {G : Gx} {s : S} : ∀ {l : List D} {vs : List V}, DVs G s l vs → D.bds s.ι.length l = true
  | _, _, .nil => rfl
  | _, _, .cons a b => by rw [D.bds, DV.bd a, DVs.bd b]; rfl
end
structure Cut (N : Nat) (s s' : S) : Prop where
  h : s'.H = s.H
  nav : ∀ a, av s' a → av s a
  pre : ∀ (m : Nat) a, m < N → s.ι[m]? = some a → s'.ι[m]? = some a
mutual
theorem DV.cut {G : Gx} {s s' : S} {N : Nat} (c : Cut N s s') : ∀ {d : D} {v : V}, DV G s d v → D.bd N d = true → DV G s' d v
  | _, _, .non, _ => .non
  | _, _, .bl b, _ => .bl b
  | _, _, .int i, _ => .int i
  | _, _, .str x, _ => .str x
  | _, _, .ptr e, h => .ptr (c.pre _ _ (by rw [D.bd] at h; exact of_decide_eq_true h) e)
  | _, _, .tup e n hs, h => .tup (by rw [c.h]; exact e) (fun q => n (c.nav _ q)) (DVs.cut c hs (by rw [D.bd] at h; exact h))
  | _, _, .tupK a b p d e hs, h => .tupK a b p d e (DVs.cut c hs (by rw [D.bd] at h; exact h))
  | _, _, .lst e n hs, h => .lst (by rw [c.h]; exact e) (fun q => n (c.nav _ q)) (DVs.cut c hs (by rw [D.bd] at h; exact h))
  | _, _, .scr e n hs, h => .scr (by rw [c.h]; exact e) (fun q => n (c.nav _ q)) (DVs.cut c hs (by rw [D.bd] at h; exact h))
  | _, _, .scrK e hs, h => .scrK e (DVs.cut c hs (by rw [D.bd] at h; exact h))
  | _, _, .dic e n hk hs, h => .dic (by rw [c.h]; exact e) (fun q => n (c.nav _ q)) hk (DVs.cut c hs (by rw [D.bd, bdK_eq] at h; exact h))
  | _, _, .dct e n hk hs, h => .dct (by rw [c.h]; exact e) (fun q => n (c.nav _ q)) hk (DVs.cut c hs (by rw [D.bd, bdT_eq] at h; exact h))
  | _, _, .ins e hc n hk hs, h => .ins (by rw [c.h]; exact e) hc (fun q => n (c.nav _ q)) hk (DVs.cut c hs (by rw [D.bd, bdF_eq] at h; exact h))
theorem DVs.cut {G : Gx} {s s' : S} {N : Nat} (c : Cut N s s') : ∀ {l : List D} {vs : List V}, DVs G s l vs → D.bds N l = true → DVs G s' l vs
  | _, _, .nil, _ => .nil
  | _, _, .cons a b, h => by
    rw [D.bds, Bool.and_eq_true] at h
    exact .cons (DV.cut c a h.1) (DVs.cut c b h.2)
end
def AO.bd (n : Nat) : AO → Bool
  | .gone => true
  | .lst l => D.bds n l
  | .dic l => D.bdK n l
  | .dct l => D.bdT n l
  | .ins _ f => D.bdF n f
theorem OV.cut {G : Gx} {s s' : S} {N : Nat} (c : Cut N s s') {a : Addr} : ∀ {o : AO}, OV G s a o → AO.bd N o = true → OV G s' a o
  | .gone, _, _ => trivial
  | .lst _, ⟨vs, x, y⟩, h => ⟨vs, by rw [c.h]; exact x, y.cut c h⟩
  | .dic _, ⟨vs, x, k, y⟩, h => ⟨vs, by rw [c.h]; exact x, k, y.cut c (by rw [AO.bd, bdK_eq] at h; exact h)⟩
  | .dct _, ⟨vs, x, k, y⟩, h => ⟨vs, by rw [c.h]; exact x, k, y.cut c (by rw [AO.bd, bdT_eq] at h; exact h)⟩
  | .ins _ _, ⟨C, dx, fs, x, y, k, w⟩, h => ⟨C, dx, fs, x, by rw [c.h]; exact y, k, w.cut c (by rw [AO.bd, bdF_eq] at h; exact h)⟩
/-- the later objects are let go of: the first ones know nothing of them -/
theorem le_trim {G : Gx} {s s' : S} (ok : Ok G s) (l : Le G s s') (e : (s'.ah.take s.ah.length).all (AO.bd s.ah.length) = true) : Le G s { s' with ι := s.ι, ah := s'.ah.take s.ah.length } ∧ Cut s.ι.length s' { s' with ι := s.ι, ah := s'.ah.take s.ah.length } := by
  have up : s.ι.length ≤ s'.ι.length := Nat.le_of_not_lt fun h => by
    have h1 := l.pre s'.ι.length s.ι[s'.ι.length] (List.getElem?_eq_getElem h)
    rw [List.getElem?_eq_none (Nat.le_refl _)] at h1
    cases h1
  have ix : ∀ (n : Nat) o, (s'.ah.take s.ah.length)[n]? = some o → s'.ah[n]? = some o := fun n o h => by
    rw [List.getElem?_take] at h
    split at h
    · exact h
    · cases h
  have lv : ∀ a, live { s' with ι := s.ι, ah := s'.ah.take s.ah.length } a → live s' a := fun a ⟨n, o, h1, h2, h3⟩ => ⟨n, o, l.pre n a h1, ix n o h2, h3⟩
  have c : Cut s.ι.length s' { s' with ι := s.ι, ah := s'.ah.take s.ah.length } := ⟨rfl, fun a h => by
    rcases h with h | h
    · exact .inl (lv a h)
    · exact .inr h, fun m a hm h => by
      show s.ι[m]? = some a
      obtain ⟨b, hb⟩ : ∃ b, s.ι[m]? = some b := ⟨s.ι[m], List.getElem?_eq_getElem hm⟩
      have := l.pre m b hb
      rw [this] at h
      rw [hb]
      exact h⟩
  refine ⟨⟨l.b, fun _ _ h => h, l.keep, fun a h => l.newl a (lv a h), l.some, ⟨?_, ok.inj, fun n a h => l.ok.ne n a (l.pre n a h), l.ok.nb, fun n a h => l.ok.dj n a (l.pre n a h), fun n a o h1 h2 => ?_⟩⟩, c⟩
  · show s.ι.length = (s'.ah.take s.ah.length).length
    rw [List.length_take, ← l.ok.len, ← ok.len]
    omega
  · exact (l.ok.obj n a o (l.pre n a h1) (ix n o h2)).cut c (by rw [ok.len]; exact List.all_eq_true.mp e o (List.mem_of_getElem? h2))

/-- a dict that is data is locked -/
theorem le_lock {G : Gx} {s : S} (h : Ok G s) {a : Addr} {kvs : List (Key × V)} (e : s.H a = some (.dK kvs)) (nv : ¬ av s a) (od : Obj) : Le G s (s.up a (.frz od (.dK kvs))) := by
  have k : ∀ b u, s.H b = some u → Kept u ((s.up a (.frz od (.dK kvs))).H b) := fun b u eb => by
    by_cases q : b = a
    · subst q
      rw [e] at eb
      cases eb
      exact .inr ⟨od, kvs, rfl, upd_same⟩
    · refine .inl ?_
      show upd s.H a _ b = some u
      rw [upd_ne q]
      exact eb
  have k' : ∀ b, s.H b ≠ none → (s.up a (.frz od (.dK kvs))).H b ≠ none := fun b q => by
    obtain ⟨v, hu⟩ := Option.ne_none_iff_exists'.mp q
    exact (k b v hu).ne
  have g : Gr s (s.up a (.frz od (.dK kvs))) := ⟨fun _ _ h => h, fun b u eb _ => k b u eb, fun _ h => .inl h⟩
  refine ⟨rfl, fun _ _ h => h, fun b u eb _ => k b u eb, fun _ h => .inl h, k', ⟨h.len, h.inj, fun i b eb => k' b (h.ne i b eb), fun b eb => k' b (h.nb b eb), h.dj, fun i b u e1 e2 => ?_⟩⟩
  cases u with
  | gone => trivial
  | _ =>
    refine (h.obj i b _ e1 e2).mono g fun w q => ?_
    show upd s.H a _ b = some w
    rw [upd_ne fun z => nv (.inl ⟨i, _, by rw [← z]; exact e1, e2, fun q => nomatch q⟩)]
    exact q
end MM

set_option linter.all false
set_option maxRecDepth 100000
namespace MM
open PySem L2

abbrev gx (X : Cx) (cl : Str → Option Addr) : Gx := ⟨X.K, cl⟩
abbrev ME := DL → AH → Option (D × AH)
abbrev MT := DL → AH → Option (Bool × AH)
abbrev MA := DL → AH → Option (List D × AH)

def SV (G : Gx) (s : S) (δ : DL) (σ : St) : Prop := δ.length = σ.length ∧ ∀ (i : Nat) d, δ[i]? = some (some d) → ∃ v, σ[i]? = some (some v) ∧ DV G s d v
theorem SV.mono {G : Gx} {s s' : S} (h : Gr s s') {δ : DL} {σ : St} (x : SV G s δ σ) : SV G s' δ σ := ⟨x.1, fun i d e => let ⟨v, a, b⟩ := x.2 i d e; ⟨v, a, b.mono h⟩⟩
theorem SV.le {G : Gx} {s s' : S} (h : Le G s s') {δ : DL} {σ : St} (x : SV G s δ σ) : SV G s' δ σ := x.mono h.gr
theorem SV.set {G : Gx} {s : S} {δ : DL} {σ : St} (x : SV G s δ σ) {d : D} {v : V} (h : DV G s d v) (i : Nat) : SV G s (δ.set i (some d)) (σ.set i (some v)) := by
  refine ⟨by rw [List.length_set, List.length_set]; exact x.1, fun j e hj => ?_⟩
  by_cases hi : i = j
  · subst hi
    have hl : i < δ.length := by
      have := (List.getElem?_eq_some_iff.mp hj).1
      rwa [List.length_set] at this
    rw [List.getElem?_set_self hl] at hj
    refine ⟨v, List.getElem?_set_self (x.1 ▸ hl), ?_⟩
    have : d = e := by simpa using hj
    rw [← this]
    exact h
  · rw [List.getElem?_set_ne hi] at hj ⊢
    exact x.2 j e hj

/-! ### the judgements: the Python refines the mirror -/
def WE (X : Cx) (e : Expr) : TE := fun σ H Q => ∀ (pins : List (Addr × Obj)) (s : Shared), Inv X pins σ H s → wpAny (model X.prog X.w) X.A (eval e X.env) (EP X pins σ Q) X.xe s
def WT (X : Cx) (e : Expr) : TT := fun σ H Q => ∀ (pins : List (Addr × Obj)) (s : Shared), Inv X pins σ H s → wpAny (model X.prog X.w) X.A (isTrue e X.env (eval e X.env)) (TP X pins σ Q) X.xe s
def WA (X : Cx) (es : List Expr) : TA := fun σ H Q => ∀ (pos : Pos) (pins : List (Addr × Obj)) (s : Shared), Inv X pins σ H s → wpAny (model X.prog X.w) X.A (spliced (backTo pos (starEach es X.env))) (AP X pins σ Q) X.xe s
def WS (X : Cx) (st : Stmt) : TS := fun D σ H => ∀ (pins : List (Addr × Obj)) (s : Shared), Inv X pins σ H s → wpAny (model X.prog X.w) X.A (exec st X.env) (SP X pins D) X.xe s
def WSs (X : Cx) (st : List Stmt) : TS := fun D σ H => ∀ (pins : List (Addr × Obj)) (s : Shared), Inv X pins σ H s → wpAny (model X.prog X.w) X.A (execs st X.env) (SP X pins D) X.xe s
def WPW (X : Cx) (e : Expr) : TT := fun σ H Q => ∀ (whole : Sem Value) (pins : List (Addr × Obj)) (s : Shared), Inv X pins σ H s → wpAny (model X.prog X.w) X.A (isTrue e X.env whole) (TP X pins σ Q) X.xe s
section
variable {X : Cx} {e : Expr} {es : List Expr} {st : Stmt} {sts : List Stmt}
theorem peW : PE X e (WE X e) := ⟨fun pins s _ _ _ I h => h pins s I⟩
theorem ptW : PT X e (WT X e) := ⟨fun pins s _ _ _ I h => h pins s I⟩
theorem pwW : PW X e (WPW X e) := ⟨fun w pins s _ _ _ I h => h w pins s I⟩
theorem paW : PA X es (WA X es) := ⟨fun pos pins s _ _ _ I h => h pos pins s I⟩
theorem psW : PS X st (WS X st) := ⟨fun pins s _ _ _ I h => h pins s I⟩
theorem pssW : PSs X sts (WSs X sts) := ⟨fun pins s _ _ _ I h => h pins s I⟩
theorem WE.of {t : TE} (h : PE X e t) {σ : St} {H : Hp} {Q : VK} (q : t σ H Q) : WE X e σ H Q := fun pins s I => h.run pins s σ H Q I q
theorem WT.of {t : TT} (h : PT X e t) {σ : St} {H : Hp} {Q : Bool → Hp → Prop} (q : t σ H Q) : WT X e σ H Q := fun pins s I => h.run pins s σ H Q I q
theorem WPW.of {t : TT} (h : PW X e t) {σ : St} {H : Hp} {Q : Bool → Hp → Prop} (q : t σ H Q) : WPW X e σ H Q := fun w pins s I => h.run w pins s σ H Q I q
theorem WA.of {t : TA} (h : PA X es t) {σ : St} {H : Hp} {Q : List V → Hp → Prop} (q : t σ H Q) : WA X es σ H Q := fun pos pins s I => h.run pos pins s σ H Q I q
theorem WS.of {t : TS} (h : PS X st t) {σ : St} {H : Hp} {D : Ends} (q : t D σ H) : WS X st D σ H := fun pins s I => h.run pins s σ H D I q
theorem WSs.of {t : TS} (h : PSs X sts t) {σ : St} {H : Hp} {D : Ends} (q : t D σ H) : WSs X sts D σ H := fun pins s I => h.run pins s σ H D I q
end
section
variable (X : Cx) (cl : Str → Option Addr)
def RE (e : Expr) (m : ME) : Prop := ∀ (δ : DL) (s : S) (σ : St) (d : D) (ah' : AH) (Q : VK), m δ s.ah = some (d, ah') → Ok (gx X cl) s → SV (gx X cl) s δ σ →
  (∀ s' v, Le (gx X cl) s s' → s'.ah = ah' → DV (gx X cl) s' d v → Q v s'.H) → WE X e σ s.H Q
def RT (e : Expr) (m : MT) : Prop := ∀ (δ : DL) (s : S) (σ : St) (b : Bool) (ah' : AH) (Q : Bool → Hp → Prop), m δ s.ah = some (b, ah') → Ok (gx X cl) s → SV (gx X cl) s δ σ →
  (∀ s', Le (gx X cl) s s' → s'.ah = ah' → Q b s'.H) → WT X e σ s.H Q
def RW (e : Expr) (m : MT) : Prop := ∀ (δ : DL) (s : S) (σ : St) (b : Bool) (ah' : AH) (Q : Bool → Hp → Prop), m δ s.ah = some (b, ah') → Ok (gx X cl) s → SV (gx X cl) s δ σ →
  (∀ s', Le (gx X cl) s s' → s'.ah = ah' → Q b s'.H) → WPW X e σ s.H Q
def RA (es : List Expr) (m : MA) : Prop := ∀ (δ : DL) (s : S) (σ : St) (ds : List D) (ah' : AH) (Q : List V → Hp → Prop), m δ s.ah = some (ds, ah') → Ok (gx X cl) s → SV (gx X cl) s δ σ →
  (∀ s' vs, Le (gx X cl) s s' → s'.ah = ah' → DVs (gx X cl) s' ds vs → Q vs s'.H) → WA X es σ s.H Q
/-- a new list of these items, nobody else's -/
def RF (e : Expr) (m : MA) : Prop := ∀ (δ : DL) (s : S) (σ : St) (ds : List D) (ah' : AH) (Q : VK), m δ s.ah = some (ds, ah') → Ok (gx X cl) s → SV (gx X cl) s δ σ →
  (∀ s1 p vs, Le (gx X cl) s s1 → s1.ah = ah' → s1.H p = none → DVs (gx X cl) s1 ds vs → Q (.ref p) (upd s1.H p (.lst vs))) → WE X e σ s.H Q
/-- a new dict -/
def RD (e : Expr) (m : DL → AH → Option (List (Key × D) × AH)) : Prop := ∀ (δ : DL) (s : S) (σ : St) (ds : List (Key × D)) (ah' : AH) (Q : VK), m δ s.ah = some (ds, ah') → Ok (gx X cl) s → SV (gx X cl) s δ σ →
  (∀ s1 p kvs, Le (gx X cl) s s1 → s1.ah = ah' → s1.H p = none → kvs.map (·.1) = ds.map (·.1) → DVs (gx X cl) s1 (ds.map (·.2)) (kvs.map (·.2)) → Q (.ref p) (upd s1.H p (.dK kvs))) → WE X e σ s.H Q
end

/-! ### mirrors of expressions -/
def eVar (i : Nat) : ME := fun δ ah => match δ[i]? with | some (some d) => some (d, ah) | _ => none
def eC (d : D) : ME := fun _ ah => some (d, ah)
def eBin (g : AH → D → D → Option D) (a b : ME) : ME := fun δ ah => (a δ ah).bind fun p => (b δ p.2).bind fun q => (g q.2 p.1 q.1).map fun d => (d, q.2)
def eFrz (m : MA) : ME := fun δ ah => (m δ ah).map fun p => (.lst p.1, p.2)
def eOwn (m : MA) : ME := fun δ ah => (m δ ah).map fun p => (.ptr p.2.length, p.2 ++ [.lst p.1])
def eFrzD (m : DL → AH → Option (List (Key × D) × AH)) : ME := fun δ ah => (m δ ah).map fun p => (.dic p.1, p.2)
def eOwnD (m : DL → AH → Option (List (Key × D) × AH)) : ME := fun δ ah => (m δ ah).map fun p => (.ptr p.2.length, p.2 ++ [.dic p.1])
def aNil : MA := fun _ ah => some ([], ah)
def aCons (a : ME) (r : MA) : MA := fun δ ah => (a δ ah).bind fun p => (r δ p.2).map fun q => (p.1 :: q.1, q.2)
def eTup (m : MA) : ME := fun δ ah => (m δ ah).bind fun p => if p.1.length ≤ 10000 then some (.tup p.1, p.2) else none
def fLst (m : MA) : MA := fun δ ah => (m δ ah).bind fun p => if p.1.length ≤ 10000 then some p else none
section
variable {X : Cx} {cl : Str → Option Addr} {e : Expr} {es : List Expr} {pos : Pos} {m : ME} {ma : MA}
theorem re_var (i : Nat) {x : Str} (hN : X.N[i]? = some x := by rfl) (hv : Vis X.env.scope x := by first | exact Or.inl rfl | exact Or.inr (Or.inl rfl) | exact Or.inr (Or.inr rfl)) (hd : (x == ("__debug__" : Str)) = false := by decide)
    (hcd : (x == ("__classdict__" : Str)) = false := by decide) : RE X cl (.Name x pos) (eVar i) := fun δ s σ d ah' Q h ok sv q => by
  unfold eVar at h
  split at h
  · rename_i d' e
    obtain ⟨rfl, rfl⟩ := Prod.mk.inj (Option.some.inj h)
    obtain ⟨v, hv', hd'⟩ := sv.2 i _ e
    exact WE.of (pe_var (i := i) hN hv hd hcd) ⟨v, hv', q s v (Le.refl ok) rfl hd'⟩
  · cases h
theorem re_of {d : D} {v : V} (h : PE X e (tC v)) (hd : ∀ s, DV (gx X cl) s d v) : RE X cl e (eC d) := fun δ s σ d' ah' Q h' ok sv q => by
  obtain ⟨rfl, rfl⟩ := Prod.mk.inj (Option.some.inj h')
  exact WE.of h (q s v (Le.refl ok) rfl (hd s))
theorem re_int {i j} : RE X cl (.Constant (.int i) j pos) (eC (.int i)) := re_of pe_int fun _ => .int i
theorem re_bl {i j} : RE X cl (.Constant (.bool i) j pos) (eC (.bl i)) := re_of pe_bl fun _ => .bl i
theorem re_non {j} : RE X cl (.Constant .none j pos) (eC .non) := re_of pe_non fun _ => .non
theorem re_str {x j} : RE X cl (.Constant (.str x) j pos) (eC (.str x)) := re_of pe_str fun _ => .str x
/-- a constant of a module -/
def Gc (K : PySem.W.Frag) (mg : Str → Option Value) (x : Str) (d : D) : Prop := ∃ u v, mg x = some u ∧ RelV v u ∧ ∀ (cl : Str → Option Addr) s, DV ⟨K, cl⟩ s d v
theorem re_glob {x : Str} {d : D} (hc : Gc X.K X.mg x d) (hg : Gl X x := by rfl) (hd : (x == ("__debug__" : Str)) = false := by decide) : RE X cl (.Name x pos) (eC d) := by
  obtain ⟨u, v, h1, h2, h3⟩ := hc
  exact re_of (pe_glob hg h1 h2 hd) fun s => h3 cl s
/-! ### arguments, displays -/
theorem ra_nil : RA X cl [] aNil := fun δ s σ d ah' Q h ok sv q => by
  obtain ⟨rfl, rfl⟩ := Prod.mk.inj (Option.some.inj h)
  exact WA.of pa_nil (q s [] (Le.refl ok) rfl .nil)
theorem ra_cons (ha : RE X cl e m) (hr : RA X cl es ma) (hs : starEach (e :: es) X.env = (false, eval e X.env) :: starEach es X.env := by rfl) : RA X cl (e :: es) (aCons m ma) := fun δ s σ d ah' Q h ok sv q => by
  obtain ⟨p, h1, h2⟩ := Option.bind_eq_some_iff.mp h
  obtain ⟨r, h3, h4⟩ := Option.map_eq_some_iff.mp h2
  obtain ⟨rfl, rfl⟩ := Prod.mk.inj h4
  refine WA.of (pa_cons peW paW hs) (ha δ s σ p.1 p.2 _ h1 ok sv fun s1 v l1 e1 d1 => ?_)
  exact hr δ s1 σ r.1 r.2 _ (by rw [e1]; exact h3) l1.ok (sv.le l1) fun s2 vs l2 e2 d2 => q s2 (v :: vs) (l1.trans l2) e2 (.cons (d1.le l2) d2)
theorem DVs.len {G : Gx} {s : S} : ∀ {l : List D} {vs : List V}, DVs G s l vs → l.length = vs.length
  | _, _, .nil => rfl
  | _, _, .cons _ t => by rw [List.length_cons, List.length_cons, DVs.len t]
theorem line10k : (10000 : Nat) ≤ sizeLine := by decide
theorem re_tup {x1} (ha : RA X cl es ma) : RE X cl (.Tuple es x1 pos) (eTup ma) := fun δ s σ d ah' Q h ok sv q => by
  obtain ⟨p, h1, h2⟩ := Option.bind_eq_some_iff.mp h
  split at h2
  · rename_i hl
    obtain ⟨rfl, rfl⟩ := Prod.mk.inj (Option.some.inj h2)
    refine WE.of (pe_tup paW) (ha δ s σ p.1 p.2 _ h1 ok sv fun s1 vs l1 e1 d1 => ⟨Nat.le_trans (d1.len ▸ hl) line10k, fun t ht => ?_⟩)
    have l2 := le_new l1.ok ht (.tup vs)
    exact q (s1.up t (.tup vs)) _ (l1.trans l2) e1 (.tup (.inl upd_same) (fun a => (l1.ok.nav ht) a) (d1.le l2))
  · cases h2
theorem rf_lst (ha : RA X cl es ma) : RF X cl (.List es pos) (fLst ma) := fun δ s σ d ah' Q h ok sv q => by
  obtain ⟨p, h1, h2⟩ := Option.bind_eq_some_iff.mp h
  split at h2
  · rename_i hl
    obtain ⟨rfl, rfl⟩ := Prod.mk.inj (Option.some.inj h2)
    exact WE.of (pe_lst paW) (ha δ s σ p.1 p.2 _ h1 ok sv fun s1 vs l1 e1 d1 => ⟨Nat.le_trans (d1.len ▸ hl) line10k, fun t ht => q s1 t vs l1 e1 ht d1⟩)
  · cases h2
/-- a new list, taken as data; as a mutable object -/
theorem re_frz (h : RF X cl e ma) : RE X cl e (eFrz ma) := fun δ s σ d ah' Q h' ok sv q => by
  obtain ⟨p, h1, h2⟩ := Option.map_eq_some_iff.mp h'
  obtain ⟨rfl, rfl⟩ := Prod.mk.inj h2
  exact h δ s σ p.1 p.2 Q h1 ok sv fun s1 t vs l1 e1 ht d1 => q (s1.up t (.lst vs)) _ (l1.trans (le_new l1.ok ht _)) e1 (.lst upd_same (fun a => (l1.ok.nav ht) a) (d1.le (le_new l1.ok ht _)))
theorem re_own (h : RF X cl e ma) : RE X cl e (eOwn ma) := fun δ s σ d ah' Q h' ok sv q => by
  obtain ⟨p, h1, h2⟩ := Option.map_eq_some_iff.mp h'
  obtain ⟨rfl, rfl⟩ := Prod.mk.inj h2
  refine h δ s σ p.1 p.2 Q h1 ok sv fun s1 t vs l1 e1 ht d1 => ?_
  have l2 : Le (gx X cl) s1 (s1.add t (.lst p.1) (.lst vs)) := le_add l1.ok ht ⟨vs, upd_same, d1.mono (gr_add l1.ok ht _ _)⟩
  refine q (s1.add t (.lst p.1) (.lst vs)) _ (l1.trans l2) (by rw [← e1]; rfl) (.ptr ?_)
  show (s1.ι ++ [t])[p.2.length]? = some t
  rw [← e1, ← l1.ok.len]
  exact List.getElem?_concat_length
theorem re_frzD {md} (h : RD X cl e md) : RE X cl e (eFrzD md) := fun δ s σ d ah' Q h' ok sv q => by
  obtain ⟨p, h1, h2⟩ := Option.map_eq_some_iff.mp h'
  obtain ⟨rfl, rfl⟩ := Prod.mk.inj h2
  exact h δ s σ p.1 p.2 Q h1 ok sv fun s1 t vs l1 e1 ht hk d1 => q (s1.up t (.dK vs)) _ (l1.trans (le_new l1.ok ht _)) e1 (.dic (.inl upd_same) (fun a => (l1.ok.nav ht) a) hk (d1.le (le_new l1.ok ht _)))
theorem re_ownD {md} (h : RD X cl e md) : RE X cl e (eOwnD md) := fun δ s σ d ah' Q h' ok sv q => by
  obtain ⟨p, h1, h2⟩ := Option.map_eq_some_iff.mp h'
  obtain ⟨rfl, rfl⟩ := Prod.mk.inj h2
  refine h δ s σ p.1 p.2 Q h1 ok sv fun s1 t vs l1 e1 ht hk d1 => ?_
  have l2 : Le (gx X cl) s1 (s1.add t (.dic p.1) (.dK vs)) := le_add l1.ok ht ⟨vs, upd_same, hk, d1.mono (gr_add l1.ok ht _ _)⟩
  refine q (s1.add t (.dic p.1) (.dK vs)) _ (l1.trans l2) (by rw [← e1]; rfl) (.ptr ?_)
  show (s1.ι ++ [t])[p.2.length]? = some t
  rw [← e1, ← l1.ok.len]
  exact List.getElem?_concat_length
end
end MM

set_option linter.all false
set_option maxRecDepth 100000
namespace MM
open PySem L2

/-! ### views -/
def asL (ah : AH) : D → Option (List D)
  | .lst l => some l
  | .ptr n => match ah[n]? with | some (.lst l) => some l | _ => none
  | _ => none
/-- a list that is only read -/
def asR (ah : AH) : D → Option (List D)
  | .lst l => some l
  | .scr l => some l
  | .ptr n => match ah[n]? with | some (.lst l) => some l | _ => none
  | _ => none
def asK (ah : AH) : D → Option (List (Key × D))
  | .dic l => some l
  | .ptr n => match ah[n]? with | some (.dic l) => some l | _ => none
  | _ => none
section
variable {G : Gx} {s : S} {d : D} {v : V} {l : List D}
theorem ptr_at {n : Nat} (h : DV G s (.ptr n) v) : ∃ a, s.ι[n]? = some a ∧ v = .ref a := by
  cases h with
  | ptr e => exact ⟨_, e, rfl⟩
theorem asL_view (h : asL s.ah d = some l) (ok : Ok G s) (x : DV G s d v) : ∃ a vs, v = .ref a ∧ s.H a = some (.lst vs) ∧ DVs G s l vs := by
  cases d with
  | lst m =>
    obtain rfl : m = l := by simpa [asL] using h
    cases x with
    | lst e _ hs => exact ⟨_, _, rfl, e, hs⟩
  | ptr n =>
    obtain ⟨a, e, rfl⟩ := ptr_at x
    cases q : s.ah[n]? with
    | none => rw [asL, q] at h; cases h
    | some o =>
      cases o with
      | lst m =>
        rw [asL, q] at h
        obtain rfl : m = l := by simpa using h
        obtain ⟨vs, h1, h2⟩ := ok.obj n a _ e q
        exact ⟨a, vs, rfl, h1, h2⟩
      | _ => rw [asL, q] at h; cases h
  | _ => cases h
theorem asR_view (h : asR s.ah d = some l) (ok : Ok G s) (x : DV G s d v) : ∃ a vs, v = .ref a ∧ SqL G.K s.H a vs ∧ DVs G s l vs := by
  cases d with
  | scr m =>
    obtain rfl : m = l := by simpa [asR] using h
    cases x with
    | scr e _ hs => exact ⟨_, _, rfl, .inl e, hs⟩
    | scrK e hs => exact ⟨_, _, rfl, .inr e, hs⟩
  | lst m =>
    obtain ⟨a, vs, e, h1, h2⟩ := asL_view (l := l) (d := .lst m) h ok x
    exact ⟨a, vs, e, .inl (.inl h1), h2⟩
  | ptr n =>
    obtain ⟨a, vs, e, h1, h2⟩ := asL_view (l := l) (d := .ptr n) h ok x
    exact ⟨a, vs, e, .inl (.inl h1), h2⟩
  | _ => cases h
theorem tup_view (x : DV G s (.tup l) v) : ∃ a vs, v = .ref a ∧ SqT G.K s.H a vs ∧ DVs G s l vs := by
  cases x with
  | tup h _ hs => exact ⟨_, _, rfl, .inl h, hs⟩
  | tupK a b c d e hs => exact ⟨_, _, rfl, .inr ⟨_, _, _, a, b, c, d, e⟩, hs⟩
theorem asK_view {l : List (Key × D)} (h : asK s.ah d = some l) (ok : Ok G s) (x : DV G s d v) : ∃ a kvs, v = .ref a ∧ Rd s.H a (.dK kvs) ∧ kvs.map (·.1) = l.map (·.1) ∧ DVs G s (l.map (·.2)) (kvs.map (·.2)) := by
  cases d with
  | dic m =>
    obtain rfl : m = l := by simpa [asK] using h
    cases x with
    | dic e _ hk hs => exact ⟨_, _, rfl, e, hk, hs⟩
  | ptr n =>
    obtain ⟨a, e, rfl⟩ := ptr_at x
    cases q : s.ah[n]? with
    | none => rw [asK, q] at h; cases h
    | some o =>
      cases o with
      | dic m =>
        rw [asK, q] at h
        obtain rfl : m = l := by simpa using h
        obtain ⟨vs, h1, h2, h3⟩ := ok.obj n a _ e q
        exact ⟨a, vs, rfl, .inl h1, h2, h3⟩
      | _ => rw [asK, q] at h; cases h
  | _ => cases h
theorem DVs.get : ∀ {l : List D} {vs : List V} {i : Nat} {d : D}, DVs G s l vs → l[i]? = some d → ∃ v, vs[i]? = some v ∧ DV G s d v
  | _, _, _, _, .nil, h => by simp at h
  | _, _, 0, _, .cons a _, h => ⟨_, rfl, by simp at h; rw [← h]; exact a⟩
  | _, _, i + 1, _, .cons _ b, h => by
    obtain ⟨v, h1, h2⟩ := DVs.get (i := i) b (by simpa using h)
    exact ⟨v, by simpa using h1, h2⟩
theorem DVs.append : ∀ {l m : List D} {vs ws : List V}, DVs G s l vs → DVs G s m ws → DVs G s (l ++ m) (vs ++ ws)
  | _, _, _, _, .nil, h => h
  | _, _, _, _, .cons a b, h => .cons a (b.append h)
theorem DVs.take : ∀ {l : List D} {vs : List V} (n : Nat), DVs G s l vs → DVs G s (l.take n) (vs.take n)
  | _, _, 0, _ => by simpa using DVs.nil
  | _, _, n + 1, .nil => by simpa using DVs.nil
  | _, _, n + 1, .cons a b => .cons a (b.take n)
theorem DVs.drop : ∀ {l : List D} {vs : List V} (n : Nat), DVs G s l vs → DVs G s (l.drop n) (vs.drop n)
  | _, _, 0, h => by simpa using h
  | _, _, n + 1, .nil => by simpa using DVs.nil
  | _, _, n + 1, .cons a b => b.drop n
theorem DVs.reverse {l : List D} {vs : List V} (h : DVs G s l vs) : DVs G s l.reverse vs.reverse := by
  induction l generalizing vs with
  | nil => cases h; exact .nil
  | cons d r ih =>
    cases h with
    | cons a b =>
      rw [List.reverse_cons, List.reverse_cons]
      exact (ih b).append (.cons a .nil)
theorem DVs.rep {l : List D} {vs : List V} (h : DVs G s l vs) : ∀ k : Nat, DVs G s (List.replicate k l).flatten (List.replicate k vs).flatten
  | 0 => .nil
  | k + 1 => by
    rw [List.replicate_succ, List.replicate_succ, List.flatten_cons, List.flatten_cons]
    exact h.append (h.rep k)
theorem DVs.set {v : V} {d : D} (hd : DV G s d v) : ∀ {l : List D} {vs : List V} (i : Nat), DVs G s l vs → DVs G s (l.set i d) (vs.set i v)
  | _, _, _, .nil => .nil
  | _, _, 0, .cons _ b => .cons hd b
  | _, _, i + 1, .cons a b => .cons a (DVs.set hd i b)
theorem DVs.eraseIdx : ∀ {l : List D} {vs : List V} (i : Nat), DVs G s l vs → DVs G s (l.eraseIdx i) (vs.eraseIdx i)
  | _, _, _, .nil => .nil
  | _, _, 0, .cons _ b => b
  | _, _, i + 1, .cons a b => .cons a (DVs.eraseIdx i b)
theorem DVs.insertIdx {v : V} {d : D} (hd : DV G s d v) : ∀ {l : List D} {vs : List V} (i : Nat), DVs G s l vs → DVs G s (l.insertIdx i d) (vs.insertIdx i v)
  | _, _, 0, h => by simpa using DVs.cons hd h
  | _, _, i + 1, .nil => by simpa using DVs.nil
  | _, _, i + 1, .cons a b => by
    rw [List.insertIdx_succ_cons, List.insertIdx_succ_cons]
    exact .cons a (DVs.insertIdx hd i b)
theorem DVs.dropLast {l : List D} {vs : List V} (h : DVs G s l vs) : DVs G s l.dropLast vs.dropLast := by
  rw [List.dropLast_eq_take, List.dropLast_eq_take, ← h.len]
  exact h.take _
end

/-! ### two-place operations -/
section
variable (X : Cx) (cl : Str → Option Addr)
def OpS (f : Value → Value → Sem Value) (g : AH → D → D → Option D) : Prop := ∀ (s : S) (x y : V) (d1 d2 d : D) (Q : VK), g s.ah d1 d2 = some d → Ok (gx X cl) s → DV (gx X cl) s d1 x → DV (gx X cl) s d2 y →
  (∀ s' v, Le (gx X cl) s s' → s'.ah = s.ah → DV (gx X cl) s' d v → Q v s'.H) → ∃ r : R2, OpR X f r ∧ r x y s.H Q
end
theorem opr_any {X : Cx} {f : Value → Value → Sem Value} : OpR X f (fun x y H Q => ∃ r : R2, OpR X f r ∧ r x y H Q) := fun pins s σ H x y v u Q I rx ry ⟨r, h, q⟩ => h pins s σ H x y v u Q I rx ry q
section
variable {X : Cx} {cl : Str → Option Addr} {a b c : Expr} {pos : Pos} {ma mb mc : ME}
theorem re_bin {op : Operator} {g : AH → D → D → Option D} (ho : OpS X cl (binaryOp op) g) (ha : RE X cl a ma) (hb : RE X cl b mb) : RE X cl (.BinOp a op b pos) (eBin g ma mb) := fun δ s σ d ah' Q h ok sv q => by
  obtain ⟨p, h1, h2⟩ := Option.bind_eq_some_iff.mp h
  obtain ⟨r, h3, h4⟩ := Option.bind_eq_some_iff.mp h2
  obtain ⟨d', h5, h6⟩ := Option.map_eq_some_iff.mp h4
  obtain ⟨rfl, rfl⟩ := Prod.mk.inj h6
  refine WE.of (pe_op opr_any peW peW) (ha δ s σ p.1 p.2 _ h1 ok sv fun s1 x l1 e1 d1 => hb δ s1 σ r.1 r.2 _ (by rw [e1]; exact h3) l1.ok (sv.le l1) fun s2 y l2 e2 d2 => ?_)
  exact ho s2 x y p.1 r.1 d' Q (by rw [e2]; exact h5) l2.ok (d1.le l2) d2 fun s3 v l3 e3 d3 => q s3 v (l1.trans (l2.trans l3)) (e3.trans e2) d3
/-- a comparison as a value -/
theorem re_cmp {op : CmpOp} {g : AH → D → D → Option D} (ho : OpS X cl (compareOp op) g) (ha : RE X cl a ma) (hb : RE X cl b mb) (hm : behindInMarks op b = false) : RE X cl (.Compare a [op] [b] pos) (eBin g ma mb) := fun δ s σ d ah' Q h ok sv q => by
  obtain ⟨p, h1, h2⟩ := Option.bind_eq_some_iff.mp h
  obtain ⟨r, h3, h4⟩ := Option.bind_eq_some_iff.mp h2
  obtain ⟨d', h5, h6⟩ := Option.map_eq_some_iff.mp h4
  obtain ⟨rfl, rfl⟩ := Prod.mk.inj h6
  refine WE.of (pe_cmpR opr_any peW peW hm) (ha δ s σ p.1 p.2 _ h1 ok sv fun s1 x l1 e1 d1 => hb δ s1 σ r.1 r.2 _ (by rw [e1]; exact h3) l1.ok (sv.le l1) fun s2 y l2 e2 d2 => ?_)
  exact ho s2 x y p.1 r.1 d' Q (by rw [e2]; exact h5) l2.ok (d1.le l2) d2 fun s3 v l3 e3 d3 => q s3 v (l1.trans (l2.trans l3)) (e3.trans e2) d3
/-- as a test -/
def tOf (m : ME) : MT := fun δ ah => (m δ ah).bind fun p => match p.1 with | .bl b => some (b, p.2) | _ => none
theorem rt_cmp {op : CmpOp} {g : AH → D → D → Option D} (ho : OpS X cl (compareOp op) g) (ha : RE X cl a ma) (hb : RE X cl b mb) (hm : behindInMarks op b = false) : RT X cl (.Compare a [op] [b] pos) (tOf (eBin g ma mb)) := fun δ s σ d ah' Q h ok sv q => by
  obtain ⟨z, h, hz⟩ := Option.bind_eq_some_iff.mp h
  obtain ⟨p, h1, h2⟩ := Option.bind_eq_some_iff.mp h
  obtain ⟨r, h3, h4⟩ := Option.bind_eq_some_iff.mp h2
  obtain ⟨d', h5, rfl⟩ := Option.map_eq_some_iff.mp h4
  cases d' with
  | bl c =>
    obtain ⟨rfl, rfl⟩ := Prod.mk.inj (Option.some.inj hz)
    refine WT.of (pt_cmpR opr_any peW peW hm) (ha δ s σ p.1 p.2 _ h1 ok sv fun s1 x l1 e1 d1 => hb δ s1 σ r.1 r.2 _ (by rw [e1]; exact h3) l1.ok (sv.le l1) fun s2 y l2 e2 d2 => ?_)
    refine ho s2 x y p.1 r.1 _ _ (by rw [e2]; exact h5) l2.ok (d1.le l2) d2 fun s3 v l3 e3 d3 => ?_
    cases d3
    exact ⟨c, rfl, q s3 (l1.trans (l2.trans l3)) (e3.trans e2)⟩
  | _ => cases hz
/-- a op b op' c -/
def eChain (g g' : AH → D → D → Option D) (a b c : ME) : ME := fun δ ah => (a δ ah).bind fun p => (b δ p.2).bind fun q => (g q.2 p.1 q.1).bind fun z => match z with
  | .bl true => (c δ q.2).bind fun r => (g' r.2 q.1 r.1).map fun d => (d, r.2)
  | .bl false => some (.bl false, q.2)
  | _ => none
theorem chain_core {op op' : CmpOp} {g g' : AH → D → D → Option D} (ho : OpS X cl (compareOp op) g) (ho' : OpS X cl (compareOp op') g') (ha : RE X cl a ma) (hb : RE X cl b mb) (hc : RE X cl c mc)
    {δ : DL} {s : S} {σ : St} {d : D} {ah' : AH} {Q : VK} (h : eChain g g' ma mb mc δ s.ah = some (d, ah')) (ok : Ok (gx X cl) s) (sv : SV (gx X cl) s δ σ) (q : ∀ s' v, Le (gx X cl) s s' → s'.ah = ah' → DV (gx X cl) s' d v → Q v s'.H) :
    tChain (fun x y H Q => ∃ r : R2, OpR X (compareOp op) r ∧ r x y H Q) (fun x y H Q => ∃ r : R2, OpR X (compareOp op') r ∧ r x y H Q) (WE X a) (WE X b) (WE X c) σ s.H Q := by
  obtain ⟨p, h1, h2⟩ := Option.bind_eq_some_iff.mp h
  obtain ⟨r, h3, h4⟩ := Option.bind_eq_some_iff.mp h2
  obtain ⟨z, h5, h6⟩ := Option.bind_eq_some_iff.mp h4
  refine ha δ s σ p.1 p.2 _ h1 ok sv fun s1 x l1 e1 d1 => hb δ s1 σ r.1 r.2 _ (by rw [e1]; exact h3) l1.ok (sv.le l1) fun s2 y l2 e2 d2 => ?_
  refine ho s2 x y p.1 r.1 z _ (by rw [e2]; exact h5) l2.ok (d1.le l2) d2 fun s3 v l3 e3 d3 => ?_
  cases z with
  | bl k =>
    cases d3
    refine ⟨k, rfl, ?_⟩
    cases k with
    | true =>
      rw [if_pos rfl]
      obtain ⟨t, h7, h8⟩ := Option.bind_eq_some_iff.mp h6
      obtain ⟨d', h9, h10⟩ := Option.map_eq_some_iff.mp h8
      obtain ⟨rfl, rfl⟩ := Prod.mk.inj h10
      refine hc δ s3 σ t.1 t.2 _ (by rw [e3, e2]; exact h7) l3.ok (((sv.le l1).le l2).le l3) fun s4 w l4 e4 d4 => ?_
      exact ho' s4 y w r.1 t.1 d' Q (by rw [e4]; exact h9) l4.ok ((d2.le l3).le l4) d4 fun s5 u l5 e5 d5 => q s5 u (l1.trans (l2.trans (l3.trans (l4.trans l5)))) (e5.trans e4) d5
    | false =>
      rw [if_neg Bool.false_ne_true]
      obtain ⟨rfl, rfl⟩ := Prod.mk.inj (Option.some.inj h6)
      exact q s3 _ (l1.trans (l2.trans l3)) (e3.trans e2) (.bl false)
  | _ => cases h6
theorem re_chain {op op' : CmpOp} {g g' : AH → D → D → Option D} (ho : OpS X cl (compareOp op) g) (ho' : OpS X cl (compareOp op') g') (ha : RE X cl a ma) (hb : RE X cl b mb) (hc : RE X cl c mc) (hm : lastMarks [op, op'] [b, c] = false := by with_unfolding_all rfl) :
    RE X cl (.Compare a [op, op'] [b, c] pos) (eChain g g' ma mb mc) := fun δ s σ d ah' Q h ok sv q => WE.of (pe_chain opr_any opr_any peW peW peW hm) (chain_core ho ho' ha hb hc h ok sv q)
theorem rt_chain {op op' : CmpOp} {g g' : AH → D → D → Option D} (ho : OpS X cl (compareOp op) g) (ho' : OpS X cl (compareOp op') g') (ha : RE X cl a ma) (hb : RE X cl b mb) (hc : RE X cl c mc) (hm : lastMarks [op, op'] [b, c] = false := by with_unfolding_all rfl) :
    RT X cl (.Compare a [op, op'] [b, c] pos) (tOf (eChain g g' ma mb mc)) := fun δ s σ d ah' Q h ok sv q => by
  obtain ⟨z, h0, hz⟩ := Option.bind_eq_some_iff.mp h
  obtain ⟨zd, za⟩ := z
  cases zd with
  | bl k =>
    obtain ⟨rfl, rfl⟩ := Prod.mk.inj (Option.some.inj hz)
    refine WT.of (pt_chain opr_any opr_any peW peW peW hm) (chain_core ho ho' ha hb hc h0 ok sv fun s' v l e dv => ?_)
    cases dv
    exact ⟨k, rfl, q s' l e⟩
  | _ => cases hz
end

/-! ### the operators -/
def gI (f : Int → Int → D) : AH → D → D → Option D := fun _ x y => match x, y with | .int i, .int j => some (f i j) | _, _ => none
def gIc (c : Int → Int → Bool) (f : Int → Int → D) : AH → D → D → Option D := fun _ x y => match x, y with | .int i, .int j => if c i j = true then some (f i j) else none | _, _ => none
def gAdd : AH → D → D → Option D := fun ah x y => match x, y with
  | .int i, .int j => some (.int (i + j))
  | .str a, .str b => if a.length + b.length ≤ 100000 then some (.str (a ++ b)) else none
  | .tup _, _ => none
  | x, y => (asL ah x).bind fun l => (asL ah y).bind fun m => if l.length + m.length ≤ 100000 then some (.lst (l ++ m)) else none
def repS (x : Str) (n : Int) : Str := ⟨(List.replicate n.toNat x.cps.toList).flatten.toArray⟩
def gMul : AH → D → D → Option D := fun ah x y => match x, y with
  | .int i, .int j => if (-(2 ^ 64) < i ∧ i < 2 ^ 64) ∨ (-(2 ^ 64) < j ∧ j < 2 ^ 64) then some (.int (i * j)) else none
  | .str a, .int n => if 0 ≤ n ∧ n ≤ 1000 ∧ a.length ≤ 1000 then some (.str (repS a n)) else none
  | .int _, _ => none
  | .tup _, _ => none
  | x, .int n => (asL ah x).bind fun l => if 0 ≤ n ∧ n ≤ 1000 ∧ l.length ≤ 1000 then some (.lst (List.replicate n.toNat l).flatten) else none
  | _, _ => none
section
variable {X : Cx} {cl : Str → Option Addr}
theorem op_int {f : Value → Value → Sem Value} {g : Int → Int → V} {g' : Int → Int → D} (h : OpR X f (rI0 g)) (hd : ∀ i j s, DV (gx X cl) s (g' i j) (g i j)) : OpS X cl f (gI g') := fun s x y d1 d2 d Q e ok h1 h2 q => by
  cases h1 <;> try (cases e)
  cases h2 <;> try (cases e)
  exact ⟨_, h, _, _, rfl, rfl, q s _ (Le.refl ok) rfl (hd _ _ _)⟩
theorem op_intc {f : Value → Value → Sem Value} {C : Int → Int → Prop} {c : Int → Int → Bool} {g : Int → Int → V} {g' : Int → Int → D} (h : OpR X f (rI C g)) (hc : ∀ i j, c i j = true → C i j) (hd : ∀ i j s, DV (gx X cl) s (g' i j) (g i j)) : OpS X cl f (gIc c g') := fun s x y d1 d2 d Q e ok h1 h2 q => by
  cases h1 <;> try (cases e)
  cases h2 <;> try (cases e)
  rename_i i j
  have e : (if c i j = true then some (g' i j) else none) = some d := e
  split at e
  · rename_i k
    cases e
    exact ⟨_, h, i, j, rfl, rfl, hc i j k, q s _ (Le.refl ok) rfl (hd _ _ _)⟩
  · cases e
abbrev gSub := gI fun i j => .int (i - j)
theorem os_sub : OpS X cl (binaryOp .Sub) gSub := op_int op_sub fun _ _ _ => .int _
abbrev gMod := gIc (fun _ j => decide (0 < j)) fun i j => .int (i % j)
theorem os_mod : OpS X cl (binaryOp .Mod) gMod := op_intc op_mod (fun _ _ h => of_decide_eq_true h) fun _ _ _ => .int _
abbrev gDiv := gIc (fun _ j => decide (0 < j) && decide (j.natAbs.log2 < 9000)) fun i j => .int (i / j)
theorem os_fdiv : OpS X cl (binaryOp .FloorDiv) gDiv := op_intc op_fdivW (fun i j h => by
  simp only [Bool.and_eq_true, decide_eq_true_eq] at h
  exact h) fun _ _ _ => .int _
abbrev gAnd := gI fun i j => .int (Builtin.bitAnd i j)
theorem os_and : OpS X cl (binaryOp .BitAnd) gAnd := op_int op_and fun _ _ _ => .int _
abbrev gOr := gI fun i j => .int (Builtin.bitOr i j)
theorem os_or : OpS X cl (binaryOp .BitOr) gOr := op_int op_or fun _ _ _ => .int _
abbrev gXor := gI fun i j => .int (Builtin.bitXor i j)
theorem os_xor : OpS X cl (binaryOp .BitXor) gXor := op_int op_xor fun _ _ _ => .int _
abbrev gShl := gIc (fun i j => decide (0 ≤ j ∧ j ≤ 1000000 ∧ i.natAbs < 2 ^ 64)) fun i j => .int (i * 2 ^ j.toNat)
theorem os_shl : OpS X cl (binaryOp .LShift) gShl := op_intc op_shl (fun i j h => show 0 ≤ j ∧ j ≤ 1000000 ∧ i.natAbs < 2 ^ 64 from of_decide_eq_true h) fun _ _ _ => .int _
abbrev gShr := gIc (fun _ j => decide (0 ≤ j)) fun i j => .int (i / 2 ^ j.toNat)
theorem os_shr : OpS X cl (binaryOp .RShift) gShr := op_intc op_shr (fun _ _ h => of_decide_eq_true h) fun _ _ _ => .int _
abbrev gLt := gI fun i j => .bl (decide (i < j))
theorem os_lt : OpS X cl (compareOp .Lt) gLt := op_int op_lt fun _ _ _ => .bl _
abbrev gLe := gI fun i j => .bl (decide (i ≤ j))
theorem os_le : OpS X cl (compareOp .LtE) gLe := op_int op_le fun _ _ _ => .bl _
abbrev gGt := gI fun i j => .bl (decide (j < i))
theorem os_gt : OpS X cl (compareOp .Gt) gGt := op_int op_gt fun _ _ _ => .bl _
abbrev gGe := gI fun i j => .bl (decide (j ≤ i))
theorem os_ge : OpS X cl (compareOp .GtE) gGe := op_int op_ge fun _ _ _ => .bl _
theorem line100k : (100000 : Nat) ≤ sizeLine := by decide
theorem os_add : OpS X cl (binaryOp .Add) gAdd := fun s x y d1 d2 d Q e ok h1 h2 q => by
  have lists : ∀ l m, asL s.ah d1 = some l → asL s.ah d2 = some m → l.length + m.length ≤ 100000 → d = .lst (l ++ m) → ∃ r : R2, OpR X (binaryOp .Add) r ∧ r x y s.H Q := fun l m e1 e2 hl ed => by
    obtain ⟨a, vs, rfl, ha, hs⟩ := asL_view e1 ok h1
    obtain ⟨b, ws, rfl, hb, ht⟩ := asL_view e2 ok h2
    refine ⟨_, op_cat, a, b, vs, ws, rfl, rfl, ha, hb, Nat.le_trans (by rw [← hs.len, ← ht.len]; exact hl) line100k, fun p hp => ?_⟩
    have l2 := le_new ok hp (.lst (vs ++ ws))
    exact q (s.up p _) _ l2 rfl (ed ▸ .lst upd_same (fun a => (ok.nav hp) a) ((hs.append ht).le l2))
  unfold gAdd at e
  split at e
  · cases h1
    cases h2
    cases e
    exact ⟨_, op_add, _, _, rfl, rfl, q s _ (Le.refl ok) rfl (.int _)⟩
  · split at e
    · rename_i hl
      cases h1
      cases h2
      cases e
      exact ⟨_, op_add_str, _, _, rfl, rfl, Nat.le_trans hl line100k, q s _ (Le.refl ok) rfl (.str _)⟩
    · cases e
  · cases e
  · obtain ⟨l, e1, e⟩ := Option.bind_eq_some_iff.mp e
    obtain ⟨m, e2, e⟩ := Option.bind_eq_some_iff.mp e
    split at e
    · rename_i hl
      exact lists l m e1 e2 hl (Option.some.inj e).symm
    · cases e
end
end MM

set_option linter.all false
set_option maxRecDepth 100000
namespace MM
open PySem L2

mutual
def D.py : D → Option PyData
  | .non => some .none
  | .bl b => some (.bool b)
  | .int i => some (.int i)
  | .str x => some (.str x)
  | .tup l => (D.pys l).map .tuple
  | .lst l => (D.pys l).map .list
  | _ => none
def D.pys : List D → Option (List PyData)
  | [] => some []
  | d :: r => (D.py d).bind fun p => (D.pys r).map fun q => p :: q
end
section
variable {G : Gx} {s : S}
mutual
theorem DV.dp : ∀ {d : D} {v : V} {p : PyData}, DV G s d v → D.py d = some p → Dp G.K s.H v p
  | _, _, _, .non, h => by simp [D.py] at h; rw [← h]; exact .non
  | _, _, _, .bl b, h => by simp [D.py] at h; rw [← h]; exact .bl b
  | _, _, _, .int b, h => by simp [D.py] at h; rw [← h]; exact .int b
  | _, _, _, .str b, h => by simp [D.py] at h; rw [← h]; exact .str b
  | _, _, _, .ptr _, h => by simp [D.py] at h
  | _, _, _, .tup e _ hs, h => by
    obtain ⟨q, h1, rfl⟩ := Option.map_eq_some_iff.mp (by simpa [D.py] using h)
    exact .tup (.inl e) (DVs.dp hs h1)
  | _, _, _, .tupK a b c d e hs, h => by
    obtain ⟨q, h1, rfl⟩ := Option.map_eq_some_iff.mp (by simpa [D.py] using h)
    exact .tup (.inr ⟨_, _, _, a, b, c, d, e⟩) (DVs.dp hs h1)
  | _, _, _, .lst e _ hs, h => by
    obtain ⟨q, h1, rfl⟩ := Option.map_eq_some_iff.mp (by simpa [D.py] using h)
    exact .lst (.inl (.inl e)) (DVs.dp hs h1)
  | _, _, _, .scr e _ hs, h => by simp [D.py] at h
  | _, _, _, .scrK e hs, h => by simp [D.py] at h
  | _, _, _, .dic e _ _ hs, h => by simp [D.py] at h
  | _, _, _, .dct e _ _ hs, h => by simp [D.py] at h
  | _, _, _, .ins e _ _ _ hs, h => by simp [D.py] at h
theorem DVs.dp : ∀ {l : List D} {vs : List V} {ps : List PyData}, DVs G s l vs → D.pys l = some ps → DpAll G.K s.H vs ps
  | _, _, _, .nil, h => by simp [D.pys] at h; rw [h]; exact .nil
  | _, _, _, .cons a b, h => by
    simp only [D.pys] at h
    obtain ⟨p, h1, h2⟩ := Option.bind_eq_some_iff.mp h
    obtain ⟨q, h3, rfl⟩ := Option.map_eq_some_iff.mp h2
    exact .cons (DV.dp a h1) (DVs.dp b h3)
end
end
def topPy (ah : AH) : D → Option PyData
  | .ptr n => (asL ah (.ptr n)).bind fun l => (D.pys l).map .list
  | d => D.py d
theorem topPy_dp {G : Gx} {s : S} {d : D} {v : V} {p : PyData} (ok : Ok G s) (x : DV G s d v) (h : topPy s.ah d = some p) : Dp G.K s.H v p := by
  cases d with
  | ptr n =>
    obtain ⟨l, h1, h2⟩ := Option.bind_eq_some_iff.mp h
    obtain ⟨q, h3, rfl⟩ := Option.map_eq_some_iff.mp h2
    obtain ⟨a, vs, rfl, ha, hs⟩ := asL_view h1 ok x
    exact .lst (.inl (.inl ha)) (hs.dp h3)
  | _ => exact x.dp h
def dEq (ah : AH) (x y : D) : Option Bool := match x, y with
  | .int i, .int j => some (decide (i = j))
  | .str a, .str b => some (decide (a = b))
  | .bl a, .bl b => some (a == b)
  | x, y => (topPy ah x).bind fun p => (topPy ah y).bind fun r => if (SeqAt.shaped p && SeqAt.shaped r) = true then some (PyData.eqv p r) else none
def gEq : AH → D → D → Option D := fun ah x y => (dEq ah x y).map .bl
def gNe : AH → D → D → Option D := fun ah x y => (dEq ah x y).map fun b => .bl (!b)
section
variable {X : Cx} {cl : Str → Option Addr}
theorem os_eqne {op : CmpOp} {f : Bool → Bool} (hs : OpR X (compareOp op) (fun x y H Q => scal x y = true ∧ Q (.bl (f (decide (x = y)))) H))
    (hD : OpR X (compareOp op) (fun x y H Q => ∃ d e, Dp X.K H x d ∧ Dp X.K H y e ∧ SeqAt.shaped d = true ∧ SeqAt.shaped e = true ∧ Q (.bl (f (PyData.eqv d e))) H)) : OpS X cl (compareOp op) (fun ah x y => (dEq ah x y).map fun b => .bl (f b)) := fun s x y d1 d2 d Q e ok h1 h2 q => by
  obtain ⟨b, e0, ed⟩ := Option.map_eq_some_iff.mp e
  subst ed
  clear e
  have e := e0
  clear e0
  have fin : ∀ c, c = b → Q (.bl (f c)) s.H := fun c ec => by
    rw [ec]
    exact q s _ (Le.refl ok) rfl (.bl _)
  unfold dEq at e
  split at e
  · cases h1
    cases h2
    cases e
    exact ⟨_, hs, rfl, fin _ (by simp)⟩
  · cases h1
    cases h2
    cases e
    exact ⟨_, hs, rfl, fin _ (by simp)⟩
  · cases h1
    cases h2
    cases e
    refine ⟨_, hs, rfl, fin _ ?_⟩
    rename_i a c
    cases a <;> cases c <;> rfl
  · obtain ⟨p, e1, e⟩ := Option.bind_eq_some_iff.mp e
    obtain ⟨r, e2, e⟩ := Option.bind_eq_some_iff.mp e
    split at e
    · rename_i hsh
      rw [Bool.and_eq_true] at hsh
      exact ⟨_, hD, p, r, topPy_dp ok h1 e1, topPy_dp ok h2 e2, hsh.1, hsh.2, fin _ (Option.some.inj e)⟩
    · cases e
theorem os_eq (hu : X.A.units + 64 < cLine) : OpS X cl (compareOp .Eq) gEq := os_eqne (f := fun b => b) op_eq (op_eqD hu)
theorem os_ne (hu : X.A.units + 64 < cLine) : OpS X cl (compareOp .NotEq) gNe := os_eqne (f := fun b => !b) op_ne (op_neD hu)
/-! is None -/
def isN : D → Bool
  | .non => true
  | _ => false
def gIsN : AH → D → D → Option D := fun _ x y => match y with | .non => some (.bl (isN x)) | _ => none
def gNotN : AH → D → D → Option D := fun _ x y => match y with | .non => some (.bl (!isN x)) | _ => none
theorem isN_eq {G : Gx} {s : S} {d : D} {v : V} (h : DV G s d v) : decide (v = V.non) = isN d := by
  cases h <;> rfl
theorem os_isN : OpS X cl (compareOp .Is) gIsN := fun s x y d1 d2 d Q e ok h1 h2 q => by
  unfold gIsN at e
  split at e
  · cases h2
    cases e
    exact ⟨_, op_isN, rfl, by rw [isN_eq h1]; exact q s _ (Le.refl ok) rfl (.bl _)⟩
  · cases e
theorem os_notN : OpS X cl (compareOp .IsNot) gNotN := fun s x y d1 d2 d Q e ok h1 h2 q => by
  unfold gNotN at e
  split at e
  · cases h2
    cases e
    exact ⟨_, op_notN, rfl, by rw [isN_eq h1]; exact q s _ (Le.refl ok) rfl (.bl _)⟩
  · cases e
/-! in -/
def keyOf : D → Option Key
  | .int i => some (.inl i)
  | .str x => some (.inr x)
  | _ => none
theorem keyOf_v {G : Gx} {s : S} {d : D} {v : V} {k : Key} (h : DV G s d v) (e : keyOf d = some k) : v = kV k := by
  cases h <;> cases e <;> rfl
def dLook (l : List (Key × D)) (k : Key) : Option D := (l.find? fun kv => decide (kv.1 = k)).map (·.2)
theorem dLook_v {G : Gx} {s : S} : ∀ {l : List (Key × D)} {kvs : List (Key × V)} {k : Key}, kvs.map (·.1) = l.map (·.1) → DVs G s (l.map (·.2)) (kvs.map (·.2)) →
    (dLook l k).isSome = (valV kvs k).isSome ∧ ∀ d, dLook l k = some d → ∃ v, valV kvs k = some v ∧ DV G s d v
  | [], [], k, _, _ => ⟨rfl, fun d h => by cases h⟩
  | [], _ :: _, k, h, _ => by simp at h
  | _ :: _, [], k, h, _ => by simp at h
  | (j, d) :: l, (j', v) :: kvs, k, h, hs => by
    simp only [List.map_cons, List.cons.injEq] at h hs
    obtain ⟨rfl, h⟩ := h
    cases hs with
    | cons h1 h2 =>
      by_cases e : j' = k
      · have e1 : dLook ((j', d) :: l) k = some d := by simp [dLook, List.find?_cons, e]
        have e2 : valV ((j', v) :: kvs) k = some v := valV_pos e
        rw [e1, e2]
        exact ⟨rfl, fun d' q => ⟨v, rfl, by cases q; exact h1⟩⟩
      · have e1 : dLook ((j', d) :: l) k = dLook l k := by simp [dLook, List.find?_cons, e]
        rw [e1, valV_neg e]
        exact dLook_v h h2
def strIn (x y : Str) : Bool := !(Builtin.Str.occurrences y x 0 y.length 1).isEmpty
/-- x in y -/
def dIn (ah : AH) (x y : D) : Option Bool := match x, y with
  | .str a, .str b => if a.length = 1 then some (decide (a.cps.getD 0 0 ∈ b.cps.toList)) else some (strIn a b)
  | .str a, .tup l => if (l.all fun d => match d with | .str _ => true | _ => false) = true then some (l.any fun d => match d with | .str b => b == a | _ => false) else none
  | x, y => match asK ah y with
    | some l => (keyOf x).map fun k => (dLook l k).isSome
    | none => (topPy ah x).bind fun p => (asL ah y).bind fun l => (D.pys l).bind fun ps => if (SeqAt.shaped p && SeqAt.shaped (.list ps)) = true then some (ps.any fun z => PyData.eqv z p) else none
def gIn : AH → D → D → Option D := fun ah x y => (dIn ah x y).map .bl
def gNotIn : AH → D → D → Option D := fun ah x y => (dIn ah x y).map fun b => .bl (!b)
theorem op_inK (hu : X.A.units + 1 < cLine) : OpR X (compareOp .In) (fun x y H Q => ∃ a o, y = .ref a ∧ DGet H a x o ∧ Q (.bl o.isSome) H) := fun pins s σ H x y v u Q I rx ry ⟨a, o, e, g, q⟩ => by
  subst e
  obtain rfl : u = Value.ref a := ry
  exact d_in hu I g rx fun s3 I3 => ⟨.bl o.isSome, H, I3, rfl, q⟩
theorem op_notInK (hu : X.A.units + 1 < cLine) : OpR X (compareOp .NotIn) (fun x y H Q => ∃ a o, y = .ref a ∧ DGet H a x o ∧ Q (.bl (!o.isSome)) H) := fun pins s σ H x y v u Q I rx ry ⟨a, o, e, g, q⟩ => by
  subst e
  obtain rfl : u = Value.ref a := ry
  exact d_notIn hu I g rx fun s3 I3 => ⟨.bl (!o.isSome), H, I3, rfl, q⟩
theorem one_sign {a : Str} (h : a.length = 1) : a = ⟨#[a.cps.getD 0 0]⟩ := by
  obtain ⟨l⟩ := a
  obtain ⟨l⟩ := l
  match l, h with
  | [c], _ => rfl
theorem strs_view {G : Gx} {s : S} {a : Str} : ∀ {l : List D} {vs : List V}, DVs G s l vs → (l.all fun d => match d with | .str _ => true | _ => false) = true → vs.all flatV = true ∧ inV (.str a) vs = l.any fun d => match d with | .str b => b == a | _ => false
  | _, _, .nil, _ => ⟨rfl, rfl⟩
  | d :: l, v :: vs, .cons h1 h2, h => by
    simp only [List.all_cons, Bool.and_eq_true] at h
    obtain ⟨ih1, ih2⟩ := strs_view (a := a) h2 h.2
    cases h1 with
    | str b =>
      refine ⟨by simp [flatV, ih1], ?_⟩
      rw [List.any_cons, ← ih2]
      rfl
    | _ => exact absurd h.1 (by simp)
theorem os_inG {op : CmpOp} {f : Bool → Bool}
    (h1 : OpR X (compareOp op) (fun x y H Q => ∃ (c : Nat) (z : Str), x = .str ⟨#[c]⟩ ∧ y = .str z ∧ Q (.bl (f (decide (c ∈ z.cps.toList)))) H))
    (h2 : OpR X (compareOp op) (fun x y H Q => ∃ i j, x = .str i ∧ y = .str j ∧ Q (.bl (f (strIn i j))) H))
    (h3 : OpR X (compareOp op) (fun x y H Q => ∃ p xs, y = .ref p ∧ (SqL X.K H p xs ∨ SqT X.K H p xs) ∧ flatV x = true ∧ xs.all flatV = true ∧ Q (.bl (f (inV x xs))) H))
    (h4 : OpR X (compareOp op) (fun x y H Q => ∃ a o, y = .ref a ∧ DGet H a x o ∧ Q (.bl (f o.isSome)) H))
    (h5 : OpR X (compareOp op) (fun x y H Q => ∃ d ds, Dp X.K H x d ∧ Dp X.K H y (.list ds) ∧ SeqAt.shaped d = true ∧ SeqAt.shaped (.list ds) = true ∧ Q (.bl (f (ds.any fun z => PyData.eqv z d))) H)) :
    OpS X cl (compareOp op) (fun ah x y => (dIn ah x y).map fun b => .bl (f b)) := fun s x y d1 d2 d Q e ok v1 v2 q => by
  obtain ⟨b, e0, ed⟩ := Option.map_eq_some_iff.mp e
  subst ed
  clear e
  have e := e0
  clear e0
  have fin : ∀ c, c = b → Q (.bl (f c)) s.H := fun c ec => by
    rw [ec]
    exact q s _ (Le.refl ok) rfl (.bl _)
  unfold dIn at e
  split at e
  · cases v1
    cases v2
    rename_i a c
    split at e
    · rename_i ha
      exact ⟨_, h1, a.cps.getD 0 0, c, by rw [← one_sign ha], rfl, fin _ (Option.some.inj e)⟩
    · exact ⟨_, h2, a, c, rfl, rfl, fin _ (Option.some.inj e)⟩
  · split at e
    · rename_i l hl
      cases v1
      obtain ⟨p, vs, rfl, hp, hs⟩ := tup_view v2
      obtain ⟨k1, k2⟩ := strs_view hs hl
      exact ⟨_, h3, p, vs, rfl, .inr hp, rfl, k1, fin _ (by rw [k2]; exact Option.some.inj e)⟩
    · cases e
  · split at e
    · rename_i l hl
      obtain ⟨k, e1, e2⟩ := Option.map_eq_some_iff.mp e
      obtain ⟨a, kvs, rfl, ha, hk, hs⟩ := asK_view hl ok v2
      exact ⟨_, h4, a, valV kvs k, rfl, .inl ⟨kvs, k, ha, keyOf_v v1 e1, rfl⟩, fin _ (by rw [← (dLook_v hk hs).1]; exact e2)⟩
    · obtain ⟨p, e1, e⟩ := Option.bind_eq_some_iff.mp e
      obtain ⟨l, e2, e⟩ := Option.bind_eq_some_iff.mp e
      obtain ⟨ps, e3, e⟩ := Option.bind_eq_some_iff.mp e
      split at e
      · rename_i hsh
        rw [Bool.and_eq_true] at hsh
        obtain ⟨a, vs, rfl, ha, hs⟩ := asL_view e2 ok v2
        exact ⟨_, h5, p, ps, topPy_dp ok v1 e1, .lst (.inl (.inl ha)) (hs.dp e3), hsh.1, hsh.2, fin _ (Option.some.inj e)⟩
      · cases e
theorem os_in (hu : X.A.units + 65 < cLine) : OpS X cl (compareOp .In) gIn := os_inG (f := fun b => b) op_inS op_in_str op_in_seq (op_inK (by omega)) (op_inD hu)
theorem os_notIn (hu : X.A.units + 65 < cLine) : OpS X cl (compareOp .NotIn) gNotIn := os_inG (f := fun b => !b) op_notInS op_notin_str op_notIn_seq (op_notInK (by omega)) (op_notInD hu)
/-! times -/
theorem repS_eq (x : Str) (n : Int) (hn : 0 < n) : (⟨(List.replicate n.toNat x.cps).foldl (· ++ ·) #[]⟩ : Str) = repS x n := by
  have k : ∀ (m : Nat) (acc : Array Nat), (List.replicate m x.cps).foldl (· ++ ·) acc = (acc.toList ++ (List.replicate m x.cps.toList).flatten).toArray := by
    intro m
    induction m with
    | zero => intro acc; simp
    | succ m ih =>
      intro acc
      rw [List.replicate_succ, List.foldl_cons, ih, List.replicate_succ, List.flatten_cons]
      simp
  rw [k]
  simp [repS]
theorem op_mul_str : OpR X (binaryOp .Mult) (fun x y H Q => ∃ z n, x = .str z ∧ y = .int n ∧ 0 ≤ n ∧ n ≤ 1000 ∧ z.length ≤ 1000 ∧ Q (.str (repS z n)) H) := fun pins s σ H x y v u Q I rx ry ⟨z, n, e1, e2, h0, h1, h2, q⟩ => by
  subst e1 e2
  obtain ⟨t, rfl⟩ := rx
  obtain ⟨t', rfl⟩ := ry
  have fin : ∀ (tk : Tok) (s' : Shared), Inv X pins σ H s' → EP X pins σ Q (.str (repS z n) tk) s' := fun tk s' I' => ⟨.str (repS z n), H, I', ⟨tk, rfl⟩, q⟩
  have hmul : z.length * n.toNat ≤ 1000000 := by
    have := Nat.mul_le_mul h2 (show n.toNat ≤ 1000 by omega)
    omega
  refine P.mul_str (by
    have a : ¬ n < -(2 ^ 63 : Int) := by omega
    have b : ¬ n ≥ 2 ^ 63 := by omega
    rw [decide_eq_false a, decide_eq_false b]; rfl) (fun hn _ => ?_) (fun _ _ => ?_) ?_
  · have hz : (z.length : Int) ≤ 1000 := by omega
    have : (1000 : Int) ≤ (2 ^ 63 - 1) / n := by
      rw [Int.le_ediv_iff_mul_le (by omega)]
      omega
    omega
  · unfold Builtin.Str.tooLong
    have : ¬ z.length * n.toNat > sizeLine := by
      have : (1000000 : Nat) ≤ sizeLine := by decide
      omega
    simpa using this
  · by_cases hn : n < 1
    · rw [if_pos hn]
      have e : repS z n = Str.empty := by
        have : n.toNat = 0 := by omega
        unfold repS
        rw [this]
        rfl
      exact ⟨by decide, by rw [← e]; exact fin _ _ (I.tok _)⟩
    · rw [if_neg hn]
      split
      · rename_i hc
        have e : repS z n = z := by
          simp only [Bool.or_eq_true, beq_iff_eq] at hc
          rcases hc with hc | hc
          · subst hc
            unfold repS
            simp
          · obtain ⟨zl⟩ := z
            have : zl = #[] := Array.eq_empty_of_size_eq_zero hc
            subst this
            simp [repS]
        show EP X pins σ Q (.str z t) s
        rw [← e]
        exact fin _ _ I
      · rw [repS_eq z n (by omega)]
        refine ⟨?_, fin _ _ (I.tok _)⟩
        have : (repS z n).length ≤ 1000000 := by
          unfold repS
          show (List.replicate n.toNat z.cps.toList).flatten.toArray.size ≤ _
          simp [List.length_flatten, List.map_replicate, List.sum_replicate_nat]
          rw [Nat.mul_comm]
          exact hmul
        exact Nat.le_trans this (by decide)
theorem os_mul : OpS X cl (binaryOp .Mult) gMul := fun s x y d1 d2 d Q e ok h1 h2 q => by
  unfold gMul at e
  split at e
  · split at e
    · rename_i hc
      cases h1
      cases h2
      cases e
      exact ⟨_, op_mul, _, _, rfl, rfl, hc, q s _ (Le.refl ok) rfl (.int _)⟩
    · cases e
  · split at e
    · rename_i hc
      cases h1
      cases h2
      cases e
      exact ⟨_, op_mul_str, _, _, rfl, rfl, hc.1, hc.2.1, hc.2.2, q s _ (Le.refl ok) rfl (.str _)⟩
    · cases e
  · cases e
  · cases e
  · obtain ⟨l, e1, e⟩ := Option.bind_eq_some_iff.mp e
    split at e
    · rename_i hc
      obtain ⟨a, vs, rfl, ha, hs⟩ := asL_view e1 ok h1
      cases h2
      cases e
      rename_i n _ _ _
      refine ⟨_, op_rep, a, n, vs, rfl, rfl, ha, by omega, by omega, ?_, fun p hp => ?_⟩
      · rw [← hs.len]
        have := Nat.mul_le_mul hc.2.2 (show n.toNat ≤ 1000 by omega)
        exact Nat.le_trans this (by decide)
      · have l2 := le_new ok hp (.lst (List.replicate n.toNat vs).flatten)
        exact q (s.up p _) _ l2 rfl (.lst upd_same (fun a => (ok.nav hp) a) ((hs.rep _).le l2))
    · cases e
  · cases e
end
end MM

set_option linter.all false
set_option maxRecDepth 100000
namespace MM
open PySem L2

/-! ### tests -/
section
variable {X : Cx} {cl : Str → Option Addr} {a b e : Expr} {rest es : List Expr} {pos : Pos} {ma mb mc : ME} {ta tb : MT} {ms : MA}
theorem rt_of (h : RE X cl e ma) (he : ∀ whole, isTrue e X.env whole = (do let v ← whole; standAt e.pos; holding [v] (truthy v)) := by intro _; rfl) : RT X cl e (tOf ma) := fun δ s σ d ah' Q h' ok sv q => by
  obtain ⟨⟨z, za⟩, h0, hz⟩ := Option.bind_eq_some_iff.mp h'
  cases z with
  | bl k =>
    obtain ⟨rfl, rfl⟩ := Prod.mk.inj (Option.some.inj hz)
    exact WT.of (pt_val peW he) (h δ s σ _ _ _ h0 ok sv fun s' v l e d => by
      cases d
      exact ⟨k, rfl, q s' l e⟩)
  | _ => cases hz
/-- truth of a list -/
def tSeqTru (m : ME) : MT := fun δ ah => (m δ ah).bind fun p => (asR p.2 p.1).map fun l => (!l.isEmpty, p.2)
theorem rt_seqTru (h : RE X cl e ma) (he : ∀ whole, isTrue e X.env whole = (do let v ← whole; standAt e.pos; holding [v] (truthy v)) := by intro _; rfl) : RT X cl e (tSeqTru ma) := fun δ s σ d ah' Q h' ok sv q => by
  obtain ⟨p, h0, hz⟩ := Option.bind_eq_some_iff.mp h'
  obtain ⟨l, h1, h2⟩ := Option.map_eq_some_iff.mp hz
  obtain ⟨rfl, rfl⟩ := Prod.mk.inj h2
  refine WT.of (pt_truth peW he) (h δ s σ _ _ _ h0 ok sv fun s' v l1 e1 d1 => ?_)
  obtain ⟨a, vs, rfl, ha, hs⟩ := asR_view (l := l) (by rw [e1]; exact h1) l1.ok d1
  refine ⟨!l.isEmpty, .inl ⟨vs, ha, ?_⟩, q s' l1 e1⟩
  have := hs.len
  cases l <;> cases vs <;> first | rfl | cases this
def tAndM (t u : MT) : MT := fun δ ah => (t δ ah).bind fun p => if p.1 = true then u δ p.2 else some (false, p.2)
def tOrM (t u : MT) : MT := fun δ ah => (t δ ah).bind fun p => if p.1 = true then some (true, p.2) else u δ p.2
def tNotM (t : MT) : MT := fun δ ah => (t δ ah).map fun p => (!p.1, p.2)
theorem rt_not (h : RT X cl a ta) : RT X cl (.UnaryOp .Not a pos) (tNotM ta) := fun δ s σ d ah' Q h' ok sv q => by
  obtain ⟨p, h1, h2⟩ := Option.map_eq_some_iff.mp h'
  obtain ⟨rfl, rfl⟩ := Prod.mk.inj h2
  exact WT.of (pt_not ptW) (h δ s σ p.1 p.2 _ h1 ok sv fun s' l e => q s' l e)
theorem rw_and1 (h : RT X cl a ta) : MM.RW X cl (.BoolOp .And [a] pos) ta := fun δ s σ d ah' Q h' ok sv q => WPW.of (pw_and1 ptW) (h δ s σ d ah' Q h' ok sv q)
theorem rw_or1 (h : RT X cl a ta) : MM.RW X cl (.BoolOp .Or [a] pos) ta := fun δ s σ d ah' Q h' ok sv q => WPW.of (pw_or1 ptW) (h δ s σ d ah' Q h' ok sv q)
theorem rw_and (h : RT X cl a ta) (hb : MM.RW X cl (.BoolOp .And (b :: rest) pos) tb) : MM.RW X cl (.BoolOp .And (a :: b :: rest) pos) (tAndM ta tb) := fun δ s σ d ah' Q h' ok sv q => by
  obtain ⟨p, h1, h2⟩ := Option.bind_eq_some_iff.mp h'
  refine WPW.of (pw_and ptW pwW) (h δ s σ p.1 p.2 _ h1 ok sv fun s1 l1 e1 => ?_)
  split
  · rename_i k
    rw [if_pos k] at h2
    exact hb δ s1 σ d ah' Q (by rw [e1]; exact h2) l1.ok (sv.le l1) fun s2 l2 e2 => q s2 (l1.trans l2) e2
  · rename_i k
    rw [if_neg k] at h2
    obtain ⟨rfl, rfl⟩ := Prod.mk.inj (Option.some.inj h2)
    exact q s1 l1 e1
theorem rw_or (h : RT X cl a ta) (hb : MM.RW X cl (.BoolOp .Or (b :: rest) pos) tb) : MM.RW X cl (.BoolOp .Or (a :: b :: rest) pos) (tOrM ta tb) := fun δ s σ d ah' Q h' ok sv q => by
  obtain ⟨p, h1, h2⟩ := Option.bind_eq_some_iff.mp h'
  refine WPW.of (pw_or ptW pwW) (h δ s σ p.1 p.2 _ h1 ok sv fun s1 l1 e1 => ?_)
  split
  · rename_i k
    rw [if_pos k] at h2
    obtain ⟨rfl, rfl⟩ := Prod.mk.inj (Option.some.inj h2)
    exact q s1 l1 e1
  · rename_i k
    rw [if_neg k] at h2
    exact hb δ s1 σ d ah' Q (by rw [e1]; exact h2) l1.ok (sv.le l1) fun s2 l2 e2 => q s2 (l1.trans l2) e2
theorem rt_rw (h : MM.RW X cl e ta) : RT X cl e ta := fun δ s σ d ah' Q h' ok sv q pins st I => h δ s σ d ah' Q h' ok sv q _ pins st I
/-! .. as values -/
def eAnd (a b : ME) : ME := fun δ ah => (a δ ah).bind fun p => match p.1 with | .bl true => b δ p.2 | .bl false => some (.bl false, p.2) | _ => none
def eOr (a b : ME) : ME := fun δ ah => (a δ ah).bind fun p => match p.1 with | .bl true => some (.bl true, p.2) | .bl false => b δ p.2 | _ => none
def eNot (a : ME) : ME := fun δ ah => (a δ ah).bind fun p => match p.1 with | .bl b => some (.bl (!b), p.2) | _ => none
theorem re_one {op} (h : RE X cl a ma) : RE X cl (.BoolOp op [a] pos) ma := fun δ s σ d ah' Q h' ok sv q => WE.of (pe_one peW) (h δ s σ d ah' Q h' ok sv q)
theorem re_and (h : RE X cl a ma) (hb : RE X cl (.BoolOp .And (b :: rest) pos) mb) : RE X cl (.BoolOp .And (a :: b :: rest) pos) (eAnd ma mb) := fun δ s σ d ah' Q h' ok sv q => by
  obtain ⟨⟨z, za⟩, h1, h2⟩ := Option.bind_eq_some_iff.mp h'
  refine WE.of (pe_and peW peW) (h δ s σ _ _ _ h1 ok sv fun s1 v l1 e1 d1 => ?_)
  cases z with
  | bl k =>
    cases d1
    refine ⟨k, rfl, ?_⟩
    cases k with
    | true =>
      rw [if_pos rfl]
      exact hb δ s1 σ d ah' Q (by rw [e1]; exact h2) l1.ok (sv.le l1) fun s2 v l2 e2 d2 => q s2 v (l1.trans l2) e2 d2
    | false =>
      rw [if_neg Bool.false_ne_true]
      obtain ⟨rfl, rfl⟩ := Prod.mk.inj (Option.some.inj h2)
      exact q s1 _ l1 e1 (.bl false)
  | _ => cases h2
theorem re_or (h : RE X cl a ma) (hb : RE X cl (.BoolOp .Or (b :: rest) pos) mb) : RE X cl (.BoolOp .Or (a :: b :: rest) pos) (eOr ma mb) := fun δ s σ d ah' Q h' ok sv q => by
  obtain ⟨⟨z, za⟩, h1, h2⟩ := Option.bind_eq_some_iff.mp h'
  refine WE.of (pe_or peW peW) (h δ s σ _ _ _ h1 ok sv fun s1 v l1 e1 d1 => ?_)
  cases z with
  | bl k =>
    cases d1
    refine ⟨k, rfl, ?_⟩
    cases k with
    | true =>
      rw [if_pos rfl]
      obtain ⟨rfl, rfl⟩ := Prod.mk.inj (Option.some.inj h2)
      exact q s1 _ l1 e1 (.bl true)
    | false =>
      rw [if_neg Bool.false_ne_true]
      exact hb δ s1 σ d ah' Q (by rw [e1]; exact h2) l1.ok (sv.le l1) fun s2 v l2 e2 d2 => q s2 v (l1.trans l2) e2 d2
  | _ => cases h2
theorem re_not (h : RE X cl a ma) : RE X cl (.UnaryOp .Not a pos) (eNot ma) := fun δ s σ d ah' Q h' ok sv q => by
  obtain ⟨⟨z, za⟩, h1, h2⟩ := Option.bind_eq_some_iff.mp h'
  refine WE.of (pe_not peW) (h δ s σ _ _ _ h1 ok sv fun s1 v l1 e1 d1 => ?_)
  cases z with
  | bl k =>
    cases d1
    obtain ⟨rfl, rfl⟩ := Prod.mk.inj (Option.some.inj h2)
    exact ⟨k, rfl, q s1 _ l1 e1 (.bl _)⟩
  | _ => cases h2
def eIf (c : MT) (a b : ME) : ME := fun δ ah => (c δ ah).bind fun p => if p.1 = true then a δ p.2 else b δ p.2
theorem re_if {c : Expr} (hc : RT X cl c ta) (ha : RE X cl a ma) (hb : RE X cl b mb) : RE X cl (.IfExp c a b pos) (eIf ta ma mb) := fun δ s σ d ah' Q h' ok sv q => by
  obtain ⟨p, h1, h2⟩ := Option.bind_eq_some_iff.mp h'
  refine WE.of (pe_ifExp ptW peW peW) (hc δ s σ p.1 p.2 _ h1 ok sv fun s1 l1 e1 => ?_)
  split
  · rename_i k
    rw [if_pos k] at h2
    exact ha δ s1 σ d ah' Q (by rw [e1]; exact h2) l1.ok (sv.le l1) fun s2 v l2 e2 d2 => q s2 v (l1.trans l2) e2 d2
  · rename_i k
    rw [if_neg k] at h2
    exact hb δ s1 σ d ah' Q (by rw [e1]; exact h2) l1.ok (sv.le l1) fun s2 v l2 e2 d2 => q s2 v (l1.trans l2) e2 d2
def eNeg (a : ME) : ME := fun δ ah => (a δ ah).bind fun p => match p.1 with | .int i => some (.int (-i), p.2) | _ => none
theorem re_neg (h : RE X cl a ma) : RE X cl (.UnaryOp .USub a pos) (eNeg ma) := fun δ s σ d ah' Q h' ok sv q => by
  obtain ⟨⟨z, za⟩, h1, h2⟩ := Option.bind_eq_some_iff.mp h'
  refine WE.of (pe_un un_neg peW) (h δ s σ _ _ _ h1 ok sv fun s1 v l1 e1 d1 => ?_)
  cases z with
  | int k =>
    cases d1
    obtain ⟨rfl, rfl⟩ := Prod.mk.inj (Option.some.inj h2)
    exact ⟨k, rfl, q s1 _ l1 e1 (.int _)⟩
  | _ => cases h2
/-- the new mutable thing is taken as data -/
def freeze (p : D × AH) : Option (D × AH) := match p.1 with
  | .ptr n => match p.2[n]? with
    | some (.lst l) => some (.lst l, p.2.set n .gone)
    | some (.dic l) => some (.dic l, p.2.set n .gone)
    | some (.ins c f) => some (.ins c f, p.2.set n .gone)
    | _ => none
  | d => some (d, p.2)
theorem freeze_step {G : Gx} {s : S} {d d' : D} {v : V} {ah' : AH} (h : freeze (d, s.ah) = some (d', ah')) (ok : Ok G s) (x : DV G s d v) : ∃ s', Le G s s' ∧ s'.ah = ah' ∧ s'.H = s.H ∧ s'.ι = s.ι ∧ DV G s' d' v := by
  have triv : ∀ z, some (z, s.ah) = some (d', ah') → z = d → ∃ s', Le G s s' ∧ s'.ah = ah' ∧ s'.H = s.H ∧ s'.ι = s.ι ∧ DV G s' d' v := fun z e1 e2 => by
    obtain ⟨rfl, rfl⟩ := Prod.mk.inj (Option.some.inj e1)
    exact ⟨s, Le.refl ok, rfl, rfl, rfl, e2 ▸ x⟩
  cases d with
  | ptr n =>
    obtain ⟨a, ea, rfl⟩ := ptr_at x
    unfold freeze at h
    cases e : s.ah[n]? with
    | none => simp only [e] at h; cases h
    | some o =>
      simp only [e] at h
      cases o with
      | lst l =>
        obtain ⟨rfl, rfl⟩ := Prod.mk.inj (Option.some.inj h)
        obtain ⟨l1, na⟩ := le_fre ok ea e (by intro q; cases q)
        obtain ⟨vs, h1, h2⟩ := ok.obj n a _ ea e
        exact ⟨s.fre n, l1, rfl, rfl, rfl, .lst h1 na (h2.le l1)⟩
      | dic l =>
        obtain ⟨rfl, rfl⟩ := Prod.mk.inj (Option.some.inj h)
        obtain ⟨l1, na⟩ := le_fre ok ea e (by intro q; cases q)
        obtain ⟨vs, h1, hk, h2⟩ := ok.obj n a _ ea e
        exact ⟨s.fre n, l1, rfl, rfl, rfl, .dic (.inl h1) na hk (h2.le l1)⟩
      | ins c f =>
        obtain ⟨rfl, rfl⟩ := Prod.mk.inj (Option.some.inj h)
        obtain ⟨l1, na⟩ := le_fre ok ea e (by intro q; cases q)
        obtain ⟨C, dx, fs, hc, h1, hk, h2⟩ := ok.obj n a _ ea e
        exact ⟨s.fre n, l1, rfl, rfl, rfl, .ins h1 hc na hk (h2.le l1)⟩
      | _ => cases h
  | _ => exact triv _ h rfl
def eFreeze (m : ME) : ME := fun δ ah => (m δ ah).bind freeze
theorem re_freeze (h : RE X cl e ma) : RE X cl e (eFreeze ma) := fun δ s σ d ah' Q h' ok sv q => by
  obtain ⟨p, h1, h2⟩ := Option.bind_eq_some_iff.mp h'
  refine h δ s σ p.1 p.2 Q h1 ok sv fun s1 v l1 e1 d1 => ?_
  obtain ⟨s2, l2, e2, eH, _, d2⟩ := freeze_step (s := s1) (d := p.1) (by rw [e1]; exact h2) l1.ok d1
  rw [← eH]
  exact q s2 v (l1.trans l2) e2 d2
/-! ### subscripts -/
def gIx (ah : AH) (x y : D) : Option D := match asK ah x with
  | some l => (keyOf y).bind fun k => dLook l k
  | none => match x, y with
    | .str z, .int i => if z.length ≤ 100000 then (atI z.cps.toList i).map fun c => .str ⟨#[c]⟩ else none
    | .tup l, .int i => atI l i
    | x, .int i => (asL ah x).bind fun l => atI l i
    | _, _ => none
def eIx (a b : ME) : ME := eBin gIx a b
theorem atI_v {G : Gx} {s : S} {l : List D} {vs : List V} {i : Int} {d : D} (h : DVs G s l vs) (e : atI l i = some d) : ∃ v, atI vs i = some v ∧ DV G s d v := by
  unfold atI at e ⊢
  obtain ⟨j, h1, h2⟩ := Option.bind_eq_some_iff.mp e
  obtain ⟨v, h3, h4⟩ := h.get h2
  exact ⟨v, Option.bind_eq_some_iff.mpr ⟨j, by rw [← h.len]; exact h1, h3⟩, h4⟩
theorem re_ix (hu : X.A.units + 64 < cLine) (ha : RE X cl a ma) (hb : RE X cl b mb) (hs : ∀ o i, subscripted b false o i = operate [o, i] (getItem o i) := by intro _ _; rfl) : RE X cl (.Subscript a b pos) (eIx ma mb) := fun δ s σ d ah' Q h ok sv q => by
  obtain ⟨p, h1, h2⟩ := Option.bind_eq_some_iff.mp h
  obtain ⟨r, h3, h4⟩ := Option.bind_eq_some_iff.mp h2
  obtain ⟨d', h5, h6⟩ := Option.map_eq_some_iff.mp h4
  obtain ⟨rfl, rfl⟩ := Prod.mk.inj h6
  unfold gIx at h5
  cases hK : asK r.2 p.1 with
  | some l =>
    rw [hK] at h5
    obtain ⟨k, h7, h8⟩ := Option.bind_eq_some_iff.mp h5
    refine WE.of (pe_dget (by omega) peW peW hs) (ha δ s σ p.1 p.2 _ h1 ok sv fun s1 x l1 e1 d1 => hb δ s1 σ r.1 r.2 _ (by rw [e1]; exact h3) l1.ok (sv.le l1) fun s2 y l2 e2 d2 => ?_)
    obtain ⟨a, kvs, rfl, hr, hk, hs⟩ := asK_view (l := l) (by rw [e2]; exact hK) l2.ok (d1.le l2)
    obtain ⟨v, h9, h10⟩ := (dLook_v (k := k) hk hs).2 _ h8
    exact ⟨a, v, rfl, .inl ⟨kvs, k, hr, keyOf_v d2 h7, h9.symm⟩, q s2 v (l1.trans l2) e2 h10⟩
  | none =>
    rw [hK] at h5
    refine WE.of (pe_ix ix_seq peW peW hs) (ha δ s σ p.1 p.2 _ h1 ok sv fun s1 x l1 e1 d1 => hb δ s1 σ r.1 r.2 _ (by rw [e1]; exact h3) l1.ok (sv.le l1) fun s2 y l2 e2 d2 => ?_)
    have d1 := d1.le l2
    have qq := fun v dv => q s2 v (l1.trans l2) e2 dv
    clear hK h1 h3 h h2 h4
    obtain ⟨p1, p2⟩ := p
    obtain ⟨r1, r2⟩ := r
    simp only at *
    split at h5
    · split at h5
      · rename_i hz
        cases d1
        cases d2
        obtain ⟨c, h7, rfl⟩ := Option.map_eq_some_iff.mp h5
        exact .inr (.inr ⟨_, _, c, rfl, rfl, Nat.le_trans hz line100k, h7, qq _ (.str _)⟩)
      · cases h5
    · obtain ⟨a, vs, rfl, hr, hs⟩ := tup_view d1
      cases d2
      obtain ⟨v, h7, h8⟩ := atI_v hs h5
      exact .inr (.inl ⟨a, vs, _, v, rfl, rfl, hr, h7, qq v h8⟩)
    · obtain ⟨l, h7, h8⟩ := Option.bind_eq_some_iff.mp h5
      obtain ⟨a, vs, rfl, hr, hs⟩ := asL_view (l := l) (by rw [e2]; exact h7) l2.ok d1
      cases d2
      obtain ⟨v, h7, h8⟩ := atI_v hs h8
      exact .inl ⟨a, vs, _, v, rfl, rfl, .inl (.inl hr), h7, qq v h8⟩
    · cases h5
/-! ### slices -/
abbrev MO := DL → AH → Option (Option Int × AH)
def ROp (X : Cx) (cl : Str → Option Addr) (e : Option Expr) (m : MO) : Prop := ∀ (δ : DL) (s : S) (σ : St) (o : Option Int) (ah' : AH) (Q : Option Int → Hp → Prop), m δ s.ah = some (o, ah') → Ok (gx X cl) s → SV (gx X cl) s δ σ →
  (∀ s', Le (gx X cl) s s' → s'.ah = ah' → Q o s'.H) → ∃ t, PO X e t ∧ t σ s.H Q
def oNone : MO := fun _ ah => some (none, ah)
def oSome (m : ME) : MO := fun δ ah => (m δ ah).bind fun p => match p.1 with | .int i => some (some i, p.2) | _ => none
theorem ro_none : ROp X cl none oNone := fun δ s σ o ah' Q h ok sv q => by
  obtain ⟨rfl, rfl⟩ := Prod.mk.inj (Option.some.inj h)
  exact ⟨_, po_none, q s (Le.refl ok) rfl⟩
theorem ro_some (h : RE X cl e ma) : ROp X cl (some e) (oSome ma) := fun δ s σ o ah' Q h' ok sv q => by
  obtain ⟨⟨z, za⟩, h1, h2⟩ := Option.bind_eq_some_iff.mp h'
  cases z with
  | int i =>
    obtain ⟨rfl, rfl⟩ := Prod.mk.inj (Option.some.inj h2)
    refine ⟨_, po_some peW, h δ s σ _ _ _ h1 ok sv fun s1 v l1 e1 d1 => ?_⟩
    cases d1
    exact ⟨i, rfl, q s1 l1 e1⟩
  | _ => cases h2
theorem po_any {eo : Option Expr} : PO X eo (fun σ H Q => ∃ t, PO X eo t ∧ t σ H Q) := ⟨fun pins s σ H Q I ⟨t, h, q⟩ => h.run pins s σ H Q I q⟩
theorem slr_any : SlR X (fun x lo hi H Q => ∃ r, SlR X r ∧ r x lo hi H Q) := fun pins s σ H x v vl vu lo hi sl Q I rx h1 h2 h3 ⟨r, h, q⟩ => h pins s σ H x v vl vu lo hi sl Q I rx h1 h2 h3 q
def cutL {α : Type} (xs : List α) (lo hi : Option Int) : List α := (xs.drop (HT.sIx xs.length 0 lo)).take (HT.sIx xs.length xs.length hi - HT.sIx xs.length 0 lo)
theorem cutL_v {G : Gx} {s : S} {l : List D} {vs : List V} (h : DVs G s l vs) (lo hi : Option Int) : DVs G s (cutL l lo hi) (cutV vs lo hi) := by
  unfold cutL cutV
  rw [← h.len]
  exact (h.drop _).take _
/-- a[lo:hi] of a text or a tuple -/
def eSlice (a : ME) (lo hi : MO) : ME := fun δ ah => (a δ ah).bind fun p => (lo δ p.2).bind fun l => (hi δ l.2).bind fun u => match p.1 with
  | .str z => if z.length ≤ 100000 then some (.str (cutS z l.1 u.1), u.2) else none
  | .tup xs => if HT.sIx xs.length 0 l.1 = 0 ∧ HT.sIx xs.length xs.length u.1 = xs.length then none else some (.tup (cutL xs l.1 u.1), u.2)
  | _ => none
/-- .. of a list: a new one -/
def fSlice (a : ME) (lo hi : MO) : MA := fun δ ah => (a δ ah).bind fun p => (lo δ p.2).bind fun l => (hi δ l.2).bind fun u => (asR u.2 p.1).map fun xs => (cutL xs l.1 u.1, u.2)
theorem re_slice {lo hi : Option Expr} {mlo mhi : MO} {p2} (ha : RE X cl a ma) (hl : ROp X cl lo mlo) (hh : ROp X cl hi mhi) : RE X cl (.Subscript a (.Slice lo hi none p2) pos) (eSlice ma mlo mhi) := fun δ s σ d ah' Q h ok sv q => by
  obtain ⟨⟨p1, p2⟩, h1, h2⟩ := Option.bind_eq_some_iff.mp h
  obtain ⟨l, h3, h4⟩ := Option.bind_eq_some_iff.mp h2
  obtain ⟨u, h5, h6⟩ := Option.bind_eq_some_iff.mp h4
  refine WE.of (pe_slice slr_any peW po_any po_any) (ha δ s σ _ _ _ h1 ok sv fun s1 x l1 e1 d1 => ?_)
  refine hl δ s1 σ l.1 l.2 _ (by rw [e1]; exact h3) l1.ok (sv.le l1) fun s2 l2 e2 => ?_
  refine hh δ s2 σ u.1 u.2 _ (by rw [e2]; exact h5) l2.ok ((sv.le l1).le l2) fun s3 l3 e3 => ?_
  have d1 := (d1.le l2).le l3
  have L := l1.trans (l2.trans l3)
  cases p1 with
  | str z =>
    simp only at h6
    split at h6
    · rename_i hz
      obtain ⟨rfl, rfl⟩ := Prod.mk.inj (Option.some.inj h6)
      cases d1
      exact ⟨_, sl_str, z, rfl, Nat.le_trans hz line100k, q s3 _ L e3 (.str _)⟩
    · cases h6
  | tup xs =>
    simp only at h6
    split at h6
    · cases h6
    · rename_i hn
      obtain ⟨rfl, rfl⟩ := Prod.mk.inj (Option.some.inj h6)
      obtain ⟨a, vs, rfl, hr, hs⟩ := tup_view d1
      refine ⟨_, sl_tup, a, vs, rfl, hr, by rw [← hs.len]; exact hn, fun t ht => ?_⟩
      have l4 := le_new L.ok ht (.tup (cutV vs l.1 u.1))
      exact q (s3.up t _) _ (L.trans l4) e3 (.tup (.inl upd_same) (fun a => (L.ok.nav ht) a) ((cutL_v hs _ _).le l4))
  | _ => cases h6
theorem rf_slice {lo hi : Option Expr} {mlo mhi : MO} {p2} (ha : RE X cl a ma) (hl : ROp X cl lo mlo) (hh : ROp X cl hi mhi) : RF X cl (.Subscript a (.Slice lo hi none p2) pos) (fSlice ma mlo mhi) := fun δ s σ d ah' Q h ok sv q => by
  obtain ⟨⟨p1, p2⟩, h1, h2⟩ := Option.bind_eq_some_iff.mp h
  obtain ⟨l, h3, h4⟩ := Option.bind_eq_some_iff.mp h2
  obtain ⟨u, h5, h6⟩ := Option.bind_eq_some_iff.mp h4
  obtain ⟨xs, h7, h8⟩ := Option.map_eq_some_iff.mp h6
  obtain ⟨rfl, rfl⟩ := Prod.mk.inj h8
  refine WE.of (pe_slice slr_any peW po_any po_any) (ha δ s σ _ _ _ h1 ok sv fun s1 x l1 e1 d1 => ?_)
  refine hl δ s1 σ l.1 l.2 _ (by rw [e1]; exact h3) l1.ok (sv.le l1) fun s2 l2 e2 => ?_
  refine hh δ s2 σ u.1 u.2 _ (by rw [e2]; exact h5) l2.ok ((sv.le l1).le l2) fun s3 l3 e3 => ?_
  have d1 := (d1.le l2).le l3
  have L := l1.trans (l2.trans l3)
  obtain ⟨a, vs, rfl, hr, hs⟩ := asR_view (l := xs) (by rw [e3]; exact h7) L.ok d1
  exact ⟨_, sl_list, a, vs, rfl, hr, fun t ht => q s3 t _ L e3 ht (cutL_v hs _ _)⟩
/-- xs[::-1] of a list -/
def fRev (a : ME) : MA := fun δ ah => (a δ ah).bind fun p => (asR p.2 p.1).map fun xs => (xs.reverse, p.2)
theorem rf_rev {k : Nat} {p1 p2 p3 : Pos} (ha : RE X cl a ma) : RF X cl (.Subscript a (.Slice none none (some (.UnaryOp .USub (.Constant (.int 1) k p1) p2)) p3) pos) (fRev ma) := fun δ s σ d ah' Q h ok sv q => by
  obtain ⟨p, h1, h2⟩ := Option.bind_eq_some_iff.mp h
  obtain ⟨xs, h7, h8⟩ := Option.map_eq_some_iff.mp h2
  obtain ⟨rfl, rfl⟩ := Prod.mk.inj h8
  refine WE.of (pe_revL peW) (ha δ s σ _ _ _ h1 ok sv fun s1 x l1 e1 d1 => ?_)
  obtain ⟨a, vs, rfl, hr, hs⟩ := asR_view (l := xs) (by rw [e1]; exact h7) l1.ok d1
  exact ⟨a, vs, rfl, hr, fun t ht => q s1 t _ l1 e1 ht hs.reverse⟩
end
end MM

set_option linter.all false
set_option maxRecDepth 100000
namespace MM
open PySem L2

/-! ### sorting, as a function -/
section
variable {α : Type}
def insBy (le : α → α → Bool) (x : α) : List α → List α
  | [] => [x]
  | y :: r => if le x y = true then x :: y :: r else y :: insBy le x r
def sortBy (le : α → α → Bool) : List α → List α
  | [] => []
  | x :: r => insBy le x (sortBy le r)
variable {le : α → α → Bool}
theorem insBy_perm (x : α) : ∀ l : List α, (insBy le x l).Perm (x :: l)
  | [] => .refl _
  | y :: r => by
    unfold insBy
    split
    · exact .refl _
    · exact ((insBy_perm x r).cons y).trans (.swap x y r)
theorem sortBy_perm : ∀ l : List α, (sortBy le l).Perm l
  | [] => .refl _
  | x :: r => (insBy_perm x _).trans ((sortBy_perm r).cons x)
theorem insBy_sorted (tr : ∀ a b c, le a b = true → le b c = true → le a c = true) (to : ∀ a b, le a b = true ∨ le b a = true) (x : α) : ∀ l : List α, l.Pairwise (fun a b => le a b = true) → (insBy le x l).Pairwise (fun a b => le a b = true)
  | [], _ => by simp [insBy]
  | y :: r, h => by
    obtain ⟨h1, h2⟩ := List.pairwise_cons.mp h
    unfold insBy
    split
    · rename_i k
      exact List.pairwise_cons.mpr ⟨fun z hz => (List.mem_cons.mp hz).elim (fun e => e ▸ k) fun e => tr _ _ _ k (h1 z e), h⟩
    · rename_i k
      refine List.pairwise_cons.mpr ⟨fun z hz => ?_, insBy_sorted tr to x r h2⟩
      rcases List.mem_cons.mp ((insBy_perm x r).mem_iff.mp hz) with e | e
      · rw [e]
        exact (to x y).resolve_left k
      · exact h1 z e
theorem sortBy_sorted (tr : ∀ a b c, le a b = true → le b c = true → le a c = true) (to : ∀ a b, le a b = true ∨ le b a = true) : ∀ l : List α, (sortBy le l).Pairwise (fun a b => le a b = true)
  | [] => .nil
  | x :: r => insBy_sorted tr to x _ (sortBy_sorted tr to r)
theorem sortBy_uniq (tr : ∀ a b c, le a b = true → le b c = true → le a c = true) (to : ∀ a b, le a b = true ∨ le b a = true) (an : ∀ a b, le a b = true → le b a = true → a = b) {l m : List α} (hp : m.Perm l) (hs : m.Pairwise (fun a b => le a b = true)) : m = sortBy le l :=
  (hp.trans (sortBy_perm l).symm).eq_of_pairwise (fun a b _ _ h1 h2 => an a b h1 h2) hs (sortBy_sorted tr to l)
end
def leS (a b : Str) : Bool := !decide (b.cps.toList < a.cps.toList)
def leI (a b : Int) : Bool := decide (a ≤ b)
def geI (a b : Int) : Bool := decide (b ≤ a)
theorem str_ext {a b : Str} (h : a.cps.toList = b.cps.toList) : a = b := by
  obtain ⟨⟨a⟩⟩ := a
  obtain ⟨⟨b⟩⟩ := b
  cases h
  rfl
theorem leS_tr (a b c : Str) (h1 : leS a b = true) (h2 : leS b c = true) : leS a c = true := by
  simp only [leS, Bool.not_eq_true', decide_eq_false_iff_not, List.not_lt] at *
  exact List.le_trans h1 h2
theorem leS_to (a b : Str) : leS a b = true ∨ leS b a = true := by
  simp only [leS, Bool.not_eq_true', decide_eq_false_iff_not, List.not_lt]
  exact List.le_total _ _
theorem leS_an (a b : Str) (h1 : leS a b = true) (h2 : leS b a = true) : a = b := by
  simp only [leS, Bool.not_eq_true', decide_eq_false_iff_not, List.not_lt] at *
  exact str_ext (List.le_antisymm h1 h2)
theorem rising_pair : ∀ (l : List Str) (p : Str), PyProof.Rows.risingS p l = true → (p :: l).Pairwise (fun a b => leS a b = true)
  | [], p, _ => by simp
  | x :: r, p, h => by
    rw [PyProof.Rows.risingS, Bool.and_eq_true] at h
    have h1 : leS p x = true := by
      have := h.1
      rw [PyProof.Rows.ltCps_eq] at this
      exact this
    have ih := rising_pair r x h.2
    refine List.pairwise_cons.mpr ⟨fun z hz => ?_, ih⟩
    rcases List.mem_cons.mp hz with e | e
    · rw [e]; exact h1
    · exact leS_tr _ _ _ h1 ((List.pairwise_cons.mp ih).1 z e)
theorem sortedS_pair {l : List Str} (h : PyProof.Rows.sortedS l = true) : l.Pairwise (fun a b => leS a b = true) := by
  cases l with
  | nil => exact .nil
  | cons x r => exact rising_pair r x h
theorem sortS_uniq {l m : List Str} (hp : m.Perm l) (h : PyProof.Rows.sortedS m = true) : m = sortBy leS l := sortBy_uniq leS_tr leS_to leS_an hp (sortedS_pair h)
theorem leI_uniq {l m : List Int} (hp : m.Perm l) (h : m.Pairwise (· ≤ ·)) : m = sortBy leI l :=
  sortBy_uniq (fun a b c h1 h2 => by simp only [leI, decide_eq_true_eq] at *; omega) (fun a b => by simp only [leI, decide_eq_true_eq]; omega) (fun a b h1 h2 => by simp only [leI, decide_eq_true_eq] at *; omega) hp (h.imp fun q => decide_eq_true q)
theorem geI_uniq {l m : List Int} (hp : m.Perm l) (h : m.Pairwise (· ≥ ·)) : m = sortBy geI l :=
  sortBy_uniq (fun a b c h1 h2 => by simp only [geI, decide_eq_true_eq] at *; omega) (fun a b => by simp only [geI, decide_eq_true_eq]; omega) (fun a b h1 h2 => by simp only [geI, decide_eq_true_eq] at *; omega) hp (h.imp fun q => decide_eq_true q)

/-! ### lists of texts, of ints, of truths -/
def strsOf : List D → Option (List Str)
  | [] => some []
  | .str x :: r => (strsOf r).map (x :: ·)
  | _ => none
def intsOf : List D → Option (List Int)
  | [] => some []
  | .int x :: r => (intsOf r).map (x :: ·)
  | _ => none
def blsOf : List D → Option (List Bool)
  | [] => some []
  | .bl x :: r => (blsOf r).map (x :: ·)
  | _ => none
section
variable {G : Gx} {s : S}
theorem strsOf_v : ∀ {l : List D} {vs : List V} {xs : List Str}, DVs G s l vs → strsOf l = some xs → vs = xs.map V.str
  | _, _, _, .nil, h => by cases h; rfl
  | d :: l, _, _, .cons a b, h => by
    cases d with
    | str x =>
      obtain ⟨ys, h1, rfl⟩ := Option.map_eq_some_iff.mp h
      cases a
      rw [strsOf_v b h1]
      rfl
    | _ => cases h
theorem intsOf_v : ∀ {l : List D} {vs : List V} {xs : List Int}, DVs G s l vs → intsOf l = some xs → vs = xs.map V.int
  | _, _, _, .nil, h => by cases h; rfl
  | d :: l, _, _, .cons a b, h => by
    cases d with
    | int x =>
      obtain ⟨ys, h1, rfl⟩ := Option.map_eq_some_iff.mp h
      cases a
      rw [intsOf_v b h1]
      rfl
    | _ => cases h
theorem blsOf_v : ∀ {l : List D} {vs : List V} {xs : List Bool}, DVs G s l vs → blsOf l = some xs → vs = xs.map V.bl
  | _, _, _, .nil, h => by cases h; rfl
  | d :: l, _, _, .cons a b, h => by
    cases d with
    | bl x =>
      obtain ⟨ys, h1, rfl⟩ := Option.map_eq_some_iff.mp h
      cases a
      rw [blsOf_v b h1]
      rfl
    | _ => cases h
theorem strs_dv : ∀ xs : List Str, DVs G s (xs.map D.str) (xs.map V.str)
  | [] => .nil
  | x :: r => .cons (.str x) (strs_dv r)
theorem ints_dv : ∀ xs : List Int, DVs G s (xs.map D.int) (xs.map V.int)
  | [] => .nil
  | x :: r => .cons (.int x) (ints_dv r)
theorem keys_dv : ∀ xs : List Key, DVs G s (xs.map fun k => match k with | .inl i => D.int i | .inr x => D.str x) (xs.map kV)
  | [] => .nil
  | .inl i :: r => .cons (.int i) (keys_dv r)
  | .inr i :: r => .cons (.str i) (keys_dv r)
end
theorem strsOf_map (xs : List Str) : strsOf (xs.map D.str) = some xs := by
  induction xs with
  | nil => rfl
  | cons x r ih => simp [strsOf, ih]
theorem intsOf_map (xs : List Int) : intsOf (xs.map D.int) = some xs := by
  induction xs with
  | nil => rfl
  | cons x r ih => simp [intsOf, ih]
theorem blsOf_map (xs : List Bool) : blsOf (xs.map D.bl) = some xs := by
  induction xs with
  | nil => rfl
  | cons x r ih => simp [blsOf, ih]

/-! ### calls of built-ins by name -/
section
variable (X : Cx) (cl : Str → Option Addr)
def C1 (f : Value) (g : AH → D → Option D) : Prop := ∀ (s : S) (x : V) (d1 d : D) (Q : VK), g s.ah d1 = some d → Ok (gx X cl) s → DV (gx X cl) s d1 x →
  (∀ s' v, Le (gx X cl) s s' → s'.ah = s.ah → DV (gx X cl) s' d v → Q v s'.H) → ∃ r, CallR X f r ∧ r [x] s.H Q
def C2 (f : Value) (g : AH → D → D → Option D) : Prop := ∀ (s : S) (x y : V) (d1 d2 d : D) (Q : VK), g s.ah d1 d2 = some d → Ok (gx X cl) s → DV (gx X cl) s d1 x → DV (gx X cl) s d2 y →
  (∀ s' v, Le (gx X cl) s s' → s'.ah = s.ah → DV (gx X cl) s' d v → Q v s'.H) → ∃ r, CallR X f r ∧ r [x, y] s.H Q
/-- .. that makes a new list -/
def CF (f : Value) (g : AH → D → Option (List D)) : Prop := ∀ (s : S) (x : V) (d1 : D) (l : List D) (Q : VK), g s.ah d1 = some l → Ok (gx X cl) s → DV (gx X cl) s d1 x →
  (∀ p vs, s.H p = none → DVs (gx X cl) s l vs → Q (.ref p) (upd s.H p (.lst vs))) → ∃ r, CallR X f r ∧ r [x] s.H Q
end
abbrev rCA (X : Cx) (f : Value) : List V → Hp → VK → Prop := fun xs H Q => ∃ r, CallR X f r ∧ r xs H Q
theorem callr_any {X : Cx} {f : Value} : CallR X f (rCA X f) := fun pins s σ H xs us Q I rv ⟨r, h, q⟩ => h pins s σ H xs us Q I rv q
def e1 (g : AH → D → Option D) (m : ME) : ME := fun δ ah => (m δ ah).bind fun p => (g p.2 p.1).map fun d => (d, p.2)
def f1 (g : AH → D → Option (List D)) (m : ME) : MA := fun δ ah => (m δ ah).bind fun p => (g p.2 p.1).map fun d => (d, p.2)
section
variable {X : Cx} {cl : Str → Option Addr} {a b e o c : Expr} {rest es : List Expr} {p pos apos cpos : Pos} {ma mb mc mo : ME} {ta tb : MT} {ms : MA} {x name : Str} {id T : String} {f : Value}
/-- hp: pe_callB callr_any (by rfl) T.len boot_len (pa_cons peW pa_nil) -/
theorem re_b1 {g : AH → D → Option D} (hc : C1 X cl f g) (hp : PE X c (tCB (rCA X f) (tCons (WE X e) tNil))) (ha : RE X cl e ma) : RE X cl c (e1 g ma) := fun δ s σ d ah' Q h ok sv q => by
  obtain ⟨z, h1, h2⟩ := Option.bind_eq_some_iff.mp h
  obtain ⟨d', h3, h4⟩ := Option.map_eq_some_iff.mp h2
  obtain ⟨rfl, rfl⟩ := Prod.mk.inj h4
  refine WE.of hp (ha δ s σ z.1 z.2 _ h1 ok sv fun s1 v l1 e1 d1 => ?_)
  exact hc s1 v z.1 d' Q (by rw [e1]; exact h3) l1.ok d1 fun s2 w l2 e2 d2 => q s2 w (l1.trans l2) (e2.trans e1) d2
theorem re_b2 {g : AH → D → D → Option D} (hc : C2 X cl f g) (hp : PE X c (tCB (rCA X f) (tCons (WE X a) (tCons (WE X b) tNil)))) (ha : RE X cl a ma) (hb : RE X cl b mb) : RE X cl c (eBin g ma mb) := fun δ s σ d ah' Q h ok sv q => by
  obtain ⟨z, h1, h2⟩ := Option.bind_eq_some_iff.mp h
  obtain ⟨r, h3, h4⟩ := Option.bind_eq_some_iff.mp h2
  obtain ⟨d', h5, h6⟩ := Option.map_eq_some_iff.mp h4
  obtain ⟨rfl, rfl⟩ := Prod.mk.inj h6
  refine WE.of hp (ha δ s σ z.1 z.2 _ h1 ok sv fun s1 v l1 e1 d1 => ?_)
  refine hb δ s1 σ r.1 r.2 _ (by rw [e1]; exact h3) l1.ok (sv.le l1) fun s2 w l2 e2 d2 => ?_
  exact hc s2 v w z.1 r.1 d' Q (by rw [e2]; exact h5) l2.ok (d1.le l2) d2 fun s3 u l3 e3 d3 => q s3 u (l1.trans (l2.trans l3)) (e3.trans e2) d3
theorem rf_b1 {g : AH → D → Option (List D)} (hc : CF X cl f g) (hp : PE X c (tCB (rCA X f) (tCons (WE X e) tNil))) (ha : RE X cl e ma) : RF X cl c (f1 g ma) := fun δ s σ d ah' Q h ok sv q => by
  obtain ⟨z, h1, h2⟩ := Option.bind_eq_some_iff.mp h
  obtain ⟨d', h3, h4⟩ := Option.map_eq_some_iff.mp h2
  obtain ⟨rfl, rfl⟩ := Prod.mk.inj h4
  refine WE.of hp (ha δ s σ z.1 z.2 _ h1 ok sv fun s1 v l1 e1 d1 => ?_)
  exact hc s1 v z.1 d' Q (by rw [e1]; exact h3) l1.ok d1 fun t vs ht dv => q s1 t vs l1 e1 ht dv
/-! len, int, abs, min, max, all, any -/
def gLen (ah : AH) (d : D) : Option D := match d with
  | .str z => if z.length ≤ 100000 then some (.int z.length) else none
  | .tup l => some (.int l.length)
  | d => match asK ah d with
    | some l => some (.int l.length)
    | none => (asL ah d).map fun l => .int l.length
theorem map_len {α β γ : Type} {l : List α} {m : List β} {f : α → γ} {g : β → γ} (h : l.map f = m.map g) : l.length = m.length := by
  have := congrArg List.length h
  simpa using this
theorem call_lenRd : CallR X (.builtin "len") (fun xs H Q => ∃ a kvs, xs = [V.ref a] ∧ Rd H a (.dK kvs) ∧ Q (.int kvs.length) H) := fun pins s σ H xs us Q I r ⟨a, kvs, e, hr, q⟩ => by
  subst e
  obtain ⟨u, eu, ru⟩ := vals1 r
  subst eu
  cases ru
  exact d_len I hr fun t s' I' => ⟨.int kvs.length, H, I', ⟨t, rfl⟩, q⟩
theorem c_len : C1 X cl (.builtin "len") gLen := fun s x d1 d Q h ok dv q => by
  unfold gLen at h
  split at h
  · split at h
    · rename_i hz
      cases dv
      cases h
      exact ⟨_, call_len, _, _, rfl, ⟨Nat.le_trans hz line100k, rfl⟩, q s _ (Le.refl ok) rfl (.int _)⟩
    · cases h
  · cases h
    obtain ⟨a, vs, rfl, hr, hs⟩ := tup_view dv
    exact ⟨_, call_len_seq, a, vs, rfl, .inr hr, by rw [← hs.len]; exact q s _ (Le.refl ok) rfl (.int _)⟩
  · split at h
    · rename_i l hl
      cases h
      obtain ⟨a, kvs, rfl, hr, hk, hs⟩ := asK_view hl ok dv
      exact ⟨_, call_lenRd, a, kvs, rfl, hr, by rw [map_len hk]; exact q s _ (Le.refl ok) rfl (.int _)⟩
    · obtain ⟨l, h1, rfl⟩ := Option.map_eq_some_iff.mp h
      obtain ⟨a, vs, rfl, hr, hs⟩ := asL_view h1 ok dv
      exact ⟨_, call_len_seq, a, vs, rfl, .inl (.inl (.inl hr)), by rw [← hs.len]; exact q s _ (Le.refl ok) rfl (.int _)⟩
def gInt : AH → D → Option D := fun _ d => match d with | .int i => some (.int i) | .bl b => some (.int (if b = true then 1 else 0)) | _ => none
theorem c_int : C1 X cl (.type "int") gInt := fun s x d1 d Q h ok dv q => by
  unfold gInt at h
  split at h
  · cases dv
    cases h
    exact ⟨_, call_int1, .inl ⟨_, rfl, q s _ (Le.refl ok) rfl (.int _)⟩⟩
  · cases dv
    cases h
    exact ⟨_, call_int1, .inr ⟨_, rfl, q s _ (Le.refl ok) rfl (.int _)⟩⟩
  · cases h
def gAbs : AH → D → Option D := fun _ d => match d with | .int i => some (.int (if i < 0 then -i else i)) | _ => none
theorem c_abs : C1 X cl (.builtin "abs") gAbs := fun s x d1 d Q h ok dv q => by
  unfold gAbs at h
  split at h
  · cases dv
    cases h
    exact ⟨_, call_abs, _, rfl, q s _ (Le.refl ok) rfl (.int _)⟩
  · cases h
abbrev gMin := gI fun i j => .int (if j < i then j else i)
abbrev gMax := gI fun i j => .int (if j > i then j else i)
theorem c_gI {g : Int → Int → Int} (h : CallR X f (fun xs H Q => ∃ i j, xs = [.int i, .int j] ∧ Q (.int (g i j)) H)) : C2 X cl f (gI fun i j => .int (g i j)) := fun s x y d1 d2 d Q e ok h1 h2 q => by
  cases h1 <;> try (cases e)
  cases h2 <;> try (cases e)
  exact ⟨_, h, _, _, rfl, q s _ (Le.refl ok) rfl (.int _)⟩
theorem c_min (hc : X.calm = true := by rfl) : C2 X cl (.builtin "min") gMin := c_gI (call_min2 hc)
theorem c_max (hc : X.calm = true := by rfl) : C2 X cl (.builtin "max") gMax := c_gI (call_max2 hc)
def gAll (ah : AH) (d : D) : Option D := (asL ah d).bind fun l => (blsOf l).map fun bs => .bl (bs.all fun b => b)
def gAny (ah : AH) (d : D) : Option D := (asL ah d).bind fun l => (blsOf l).map fun bs => .bl (bs.any fun b => b)
theorem c_all (hc : X.calm = true := by rfl) : C1 X cl (.builtin "all") gAll := fun s x d1 d Q h ok dv q => by
  obtain ⟨l, h1, h2⟩ := Option.bind_eq_some_iff.mp h
  obtain ⟨bs, h3, rfl⟩ := Option.map_eq_some_iff.mp h2
  obtain ⟨a, vs, rfl, hr, hs⟩ := asL_view h1 ok dv
  have e := blsOf_v hs h3
  subst e
  exact ⟨_, cr_all hc, a, bs, rfl, .inl (.inl hr), q s _ (Le.refl ok) rfl (.bl _)⟩
theorem c_any (hc : X.calm = true := by rfl) : C1 X cl (.builtin "any") gAny := fun s x d1 d Q h ok dv q => by
  obtain ⟨l, h1, h2⟩ := Option.bind_eq_some_iff.mp h
  obtain ⟨bs, h3, rfl⟩ := Option.map_eq_some_iff.mp h2
  obtain ⟨a, vs, rfl, hr, hs⟩ := asL_view h1 ok dv
  have e := blsOf_v hs h3
  subst e
  exact ⟨_, cr_any hc, a, bs, rfl, .inl (.inl hr), q s _ (Le.refl ok) rfl (.bl _)⟩
/-! tuple(x), list(x), sorted(x) -/
def gTuple (ah : AH) (d : D) : Option D := match d with
  | .tup l => some (.tup l)
  | d => (asL ah d).map .tup
theorem c_tuple : C1 X cl (.type "tuple") gTuple := fun s x d1 d Q h ok dv q => by
  unfold gTuple at h
  split at h
  · cases h
    have dv' := dv
    obtain ⟨a, vs, rfl, hr, hs⟩ := tup_view dv
    exact ⟨_, call_tuple_of, a, vs, rfl, .inr ⟨hr, q s _ (Le.refl ok) rfl dv'⟩⟩
  · obtain ⟨l, h1, rfl⟩ := Option.map_eq_some_iff.mp h
    obtain ⟨a, vs, rfl, hr, hs⟩ := asL_view h1 ok dv
    refine ⟨_, call_tuple_of, a, vs, rfl, .inl ⟨.inl (.inl hr), fun t ht => ?_⟩⟩
    have l2 := le_new ok ht (.tup vs)
    exact q (s.up t _) _ l2 rfl (.tup (.inl upd_same) (fun a => (ok.nav ht) a) (hs.le l2))
def keyD : Key → D
  | .inl i => .int i
  | .inr x => .str x
theorem keysD_dv {G : Gx} {s : S} : ∀ xs : List Key, DVs G s (xs.map keyD) (xs.map kV)
  | [] => .nil
  | .inl i :: r => .cons (.int i) (keysD_dv r)
  | .inr i :: r => .cons (.str i) (keysD_dv r)
def gList (ah : AH) (d : D) : Option (List D) := match d with
  | .tup l => some l
  | d => match asK ah d with
    | some l => some (l.map fun kv => keyD kv.1)
    | none => asR ah d
theorem c_list (hc : X.calm = true := by rfl) : CF X cl (.type "list") gList := fun s x d1 l Q h ok dv q => by
  unfold gList at h
  split at h
  · cases h
    obtain ⟨a, vs, rfl, hr, hs⟩ := tup_view dv
    exact ⟨_, call_list_of, a, vs, rfl, .inr hr, fun t ht => q t vs ht hs⟩
  · split at h
    · rename_i m hm
      cases h
      obtain ⟨a, kvs, rfl, hr, hk, hs⟩ := asK_view hm ok dv
      refine ⟨_, call_listD hc, a, kvs, rfl, hr, fun t ht => q t _ ht ?_⟩
      have e1 : (kvs.map fun kv => kV kv.1) = (m.map (·.1)).map kV := by rw [← hk, List.map_map]; rfl
      have e2 : (m.map fun kv => keyD kv.1) = (m.map (·.1)).map keyD := by rw [List.map_map]; rfl
      rw [e1, e2]
      exact keysD_dv _
    · obtain ⟨a, vs, rfl, hr, hs⟩ := asR_view h ok dv
      exact ⟨_, call_list_of, a, vs, rfl, .inl hr, fun t ht => q t vs ht hs⟩
def gSorted (ah : AH) (d : D) : Option (List D) := match asK ah d with
  | some l => (strsOf (l.map fun kv => keyD kv.1)).bind fun xs => if xs.length < 64 then some ((sortBy leS xs).map .str) else none
  | none => match d with
    | .tup l => none
    | d => (asR ah d).bind fun l => match strsOf l with
      | some xs => if xs.length < 64 then some ((sortBy leS xs).map .str) else none
      | none => (intsOf l).map fun xs => (sortBy leI xs).map .int
theorem keys_strs : ∀ {l : List (Key × D)} {xs : List Str}, strsOf (l.map fun kv => keyD kv.1) = some xs → l.map (·.1) = xs.map Sum.inr
  | [], _, h => by cases h; rfl
  | (.inl i, d) :: r, _, h => by cases h
  | (.inr x, d) :: r, _, h => by
    obtain ⟨ys, h1, rfl⟩ := Option.map_eq_some_iff.mp h
    simp [keys_strs h1]
theorem c_sorted (hc : X.calm = true := by rfl) : CF X cl (.builtin "sorted") gSorted := fun s x d1 l Q h ok dv q => by
  unfold gSorted at h
  split at h
  · rename_i m hm
    obtain ⟨xs, h1, h2⟩ := Option.bind_eq_some_iff.mp h
    split at h2
    · rename_i h64
      cases h2
      obtain ⟨a, kvs, rfl, hr, hk, hs⟩ := asK_view hm ok dv
      refine ⟨_, call_sortedD hc, a, kvs, xs, rfl, hr, hk.trans (keys_strs h1), h64, fun ys t hp hso ht => ?_⟩
      rw [sortS_uniq hp hso]
      exact q t _ ht (strs_dv _)
    · cases h2
  · split at h
    · cases h
    · obtain ⟨m, h1, h2⟩ := Option.bind_eq_some_iff.mp h
      obtain ⟨a, vs, rfl, hr, hs⟩ := asR_view h1 ok dv
      split at h2
      · rename_i xs hx
        split at h2
        · rename_i h64
          cases h2
          have e := strsOf_v hs hx
          subst e
          refine ⟨_, cr_sortedS, a, xs, rfl, hr, h64, fun ys t hp hso ht => ?_⟩
          rw [sortS_uniq hp hso]
          exact q t _ ht (strs_dv _)
        · cases h2
      · obtain ⟨xs, hx, rfl⟩ := Option.map_eq_some_iff.mp h2
        have e := intsOf_v hs hx
        subst e
        refine ⟨_, cr_sortedI, a, xs, rfl, hr, fun ys t hp hso ht => ?_⟩
        rw [leI_uniq hp hso]
        exact q t _ ht (ints_dv _)
/-- sorted(xs, reverse=True) of ints -/
def fSortedR (m : ME) : MA := fun δ ah => (m δ ah).bind fun p => (asR p.2 p.1).bind fun l => (intsOf l).map fun xs => ((sortBy geI xs).map .int, p.2)
theorem rf_sortedR {kpos : Pos} {k : Nat} {kp : Pos} {r : List V → List V → Hp → VK → Prop} (hr : r = rSortedKw X.K true [.bl true]) (hp : PE X c (tCKw r (tCons (WE X e) tNil) (tCons (tC (.bl true)) tNil))) (ha : RE X cl e ma) : RF X cl c (fSortedR ma) := fun δ s σ d ah' Q h ok sv q => by
  obtain ⟨z, h1, h2⟩ := Option.bind_eq_some_iff.mp h
  obtain ⟨l, h3, h4⟩ := Option.bind_eq_some_iff.mp h2
  obtain ⟨xs, h5, h6⟩ := Option.map_eq_some_iff.mp h4
  obtain ⟨rfl, rfl⟩ := Prod.mk.inj h6
  subst hr
  refine WE.of hp (ha δ s σ z.1 z.2 _ h1 ok sv fun s1 v l1 e1 d1 => ?_)
  obtain ⟨a, vs, rfl, hr, hs⟩ := asR_view (l := l) (by rw [e1]; exact h3) l1.ok d1
  have e := intsOf_v hs h5
  subst e
  refine ⟨a, xs, rfl, rfl, hr, fun ys t hp hso ht => ?_⟩
  rw [geI_uniq hp (by simpa [OrdB] using hso)]
  exact q s1 t _ l1 e1 ht (ints_dv _)
/-! dict(d) -/
def dDict (m : ME) : DL → AH → Option (List (Key × D) × AH) := fun δ ah => (m δ ah).bind fun p => (asK p.2 p.1).map fun l => (l, p.2)
theorem rd_dict (hp : PE X c (tCB (rCA X (.type "dict")) (tCons (WE X e) tNil))) (ha : RE X cl e ma) : RD X cl c (dDict ma) := fun δ s σ d ah' Q h ok sv q => by
  obtain ⟨z, h1, h2⟩ := Option.bind_eq_some_iff.mp h
  obtain ⟨l, h3, h4⟩ := Option.map_eq_some_iff.mp h2
  obtain ⟨rfl, rfl⟩ := Prod.mk.inj h4
  refine WE.of hp (ha δ s σ z.1 z.2 _ h1 ok sv fun s1 v l1 e1 d1 => ?_)
  obtain ⟨a, kvs, rfl, hr, hk, hs⟩ := asK_view (l := l) (by rw [e1]; exact h3) l1.ok d1
  exact ⟨_, call_dictD, a, kvs, rfl, hr, fun t ht => q s1 t kvs l1 e1 ht hk hs⟩
/-- {} -/
def dNew : DL → AH → Option (List (Key × D) × AH) := fun _ ah => some ([], ah)
theorem rd_new : RD X cl (.Dict [] [] pos) dNew := fun δ s σ d ah' Q h ok sv q => by
  obtain ⟨rfl, rfl⟩ := Prod.mk.inj (Option.some.inj h)
  exact WE.of pe_dnewK fun t ht => q s t [] (Le.refl ok) rfl ht rfl .nil
end
end MM

set_option linter.all false
set_option maxRecDepth 100000
namespace MM
open PySem L2

abbrev rMA (X : Cx) (id : String) : V → List V → Hp → VK → Prop := fun x xs H Q => ∃ r, MtR X id r ∧ r x xs H Q
theorem mtr_any {X : Cx} {id : String} : MtR X id (rMA X id) := fun pins s σ H x xs v us Q I rx rs ⟨r, h, q⟩ => h pins s σ H x xs v us Q I rx rs q

/-! ### methods that write their list -/
def MutS (X : Cx) (cl : Str → Option Addr) (id : String) (g : AH → List D → List D → Option (D × List D)) : Prop := ∀ (s : S) (a : Addr) (l : List D) (vs : List V) (ds : List D) (ws : List V) (d : D) (l' : List D) (Q : VK), g s.ah l ds = some (d, l') → Ok (gx X cl) s →
  s.H a = some (.lst vs) → DVs (gx X cl) s l vs → DVs (gx X cl) s ds ws → (∀ v vs', DVs (gx X cl) s l' vs' → DV (gx X cl) s d v → Q v (upd s.H a (.lst vs'))) → ∃ r, MtR X id r ∧ r (.ref a) ws s.H Q
def lstAt (ah : AH) (n : Nat) : Option (List D) := match ah[n]? with | some (.lst l) => some l | _ => none
theorem lstAt_some {ah : AH} {n : Nat} {l : List D} (h : lstAt ah n = some l) : ah[n]? = some (.lst l) := by
  unfold lstAt at h
  split at h
  · rename_i m e
    rw [e]
    exact congrArg (fun z => some (AO.lst z)) (Option.some.inj h)
  · cases h
def eMut (g : AH → List D → List D → Option (D × List D)) (mo : ME) (ma : MA) : ME := fun δ ah => (mo δ ah).bind fun p => match p.1 with
  | .ptr n => (lstAt p.2 n).bind fun _ => (ma δ p.2).bind fun q => (lstAt q.2 n).bind fun l => (g q.2 l q.1).map fun r => (r.1, q.2.set n (.lst r.2))
  | _ => none
section
variable {X : Cx} {cl : Str → Option Addr} {a b e o c : Expr} {rest es : List Expr} {p pos apos cpos : Pos} {ma mb mc mo : ME} {ta tb : MT} {ms : MA} {x name : Str} {id T : String} {f : Value}
theorem mut_step {g : AH → List D → List D → Option (D × List D)} (hm : MutS X cl id g) {s : S} {n : Nat} {v : V} {l l' ds : List D} {ws : List V} {d : D} {Q : VK} (ok : Ok (gx X cl) s) (dv : DV (gx X cl) s (.ptr n) v) (hl : lstAt s.ah n = some l) (hd : DVs (gx X cl) s ds ws)
    (h : g s.ah l ds = some (d, l')) (q : ∀ s' w, Le (gx X cl) s s' → s'.ah = s.ah.set n (.lst l') → DV (gx X cl) s' d w → Q w s'.H) : rMA X id v ws s.H Q := by
  obtain ⟨a, ea, rfl⟩ := ptr_at dv
  have e := lstAt_some hl
  obtain ⟨vs, h1, h2⟩ := ok.obj n a _ ea e
  refine hm s a l vs ds ws d l' Q h ok h1 h2 hd fun w vs' d1 d2 => ?_
  have g := gr_put ea e (by intro q; cases q) (.lst l') (.lst vs')
  have l2 : Le (gx X cl) s (s.put n a (.lst l') (.lst vs')) := le_put ok ea e (by intro q; cases q) ⟨vs', upd_same, d1.mono g⟩
  exact q _ w l2 rfl (d2.mono g)
theorem ptr_ty {s : S} {n : Nat} {v : V} {l : List D} (ok : Ok (gx X cl) s) (dv : DV (gx X cl) s (.ptr n) v) (hl : lstAt s.ah n = some l) : tyV X.K "list" v s.H := by
  obtain ⟨a, ea, rfl⟩ := ptr_at dv
  obtain ⟨vs, h1, _⟩ := ok.obj n a _ ea (lstAt_some hl)
  exact .inl ⟨rfl, vs, .inl (.inl h1)⟩
/-- hp: pe_bm plainAttrs_list slot type mtr_any peW paW -/
theorem re_mut {g : AH → List D → List D → Option (D × List D)} (hm : MutS X cl id g) (hp : PE X c (tBM X.K "list" (rMA X id) (WE X o) (WA X es))) (ho : RE X cl o mo) (ha : RA X cl es ms) : RE X cl c (eMut g mo ms) := fun δ s σ d ah' Q h ok sv q => by
  obtain ⟨⟨z, za⟩, h1, h2⟩ := Option.bind_eq_some_iff.mp h
  cases z with
  | ptr n =>
    obtain ⟨l0, h3, h4⟩ := Option.bind_eq_some_iff.mp h2
    obtain ⟨r, h5, h6⟩ := Option.bind_eq_some_iff.mp h4
    obtain ⟨l, h7, h8⟩ := Option.bind_eq_some_iff.mp h6
    obtain ⟨u, h9, h10⟩ := Option.map_eq_some_iff.mp h8
    obtain ⟨rfl, rfl⟩ := Prod.mk.inj h10
    refine WE.of hp (ho δ s σ _ _ _ h1 ok sv fun s1 v l1 e1 d1 => ⟨ptr_ty l1.ok d1 (by rw [e1]; exact h3), ?_⟩)
    refine ha δ s1 σ r.1 r.2 _ (by rw [e1]; exact h5) l1.ok (sv.le l1) fun s2 ws l2 e2 d2 => ?_
    exact mut_step hm l2.ok (d1.le l2) (by rw [e2]; exact h7) d2 (by rw [e2]; exact h9) fun s3 w l3 e3 d3 => q s3 w (l1.trans (l2.trans l3)) (by rw [e3, e2]) d3
  | _ => cases h2
/-- .. without arguments -/
theorem re_mut0 {g : AH → List D → List D → Option (D × List D)} (hm : MutS X cl id g) (hp : PE X c (tBM0 X.K "list" (rMA X id) (WE X o))) (ho : RE X cl o mo) : RE X cl c (eMut g mo aNil) := fun δ s σ d ah' Q h ok sv q => by
  obtain ⟨⟨z, za⟩, h1, h2⟩ := Option.bind_eq_some_iff.mp h
  cases z with
  | ptr n =>
    obtain ⟨l0, h3, h4⟩ := Option.bind_eq_some_iff.mp h2
    obtain ⟨r, h5, h6⟩ := Option.bind_eq_some_iff.mp h4
    obtain ⟨l, h7, h8⟩ := Option.bind_eq_some_iff.mp h6
    obtain ⟨u, h9, h10⟩ := Option.map_eq_some_iff.mp h8
    obtain ⟨rfl, rfl⟩ := Prod.mk.inj h10
    cases h5
    refine WE.of hp (ho δ s σ _ _ _ h1 ok sv fun s1 v l1 e1 d1 => ⟨ptr_ty l1.ok d1 (by rw [e1]; exact h3), ?_⟩)
    exact mut_step hm l1.ok d1 (by rw [e1]; exact h7) .nil (by rw [e1]; exact h9) fun s3 w l3 e3 d3 => q s3 w (l1.trans l3) (by rw [e3, e1]) d3
  | _ => cases h2
def gAppend : AH → List D → List D → Option (D × List D) := fun _ l ds => match ds with | [d] => if l.length < 100000 then some (.non, l ++ [d]) else none | _ => none
theorem m_append : MutS X cl "list.append" gAppend := fun s a l vs ds ws d l' Q h ok ha hl hd q => by
  unfold gAppend at h
  split at h
  · split at h
    · rename_i hz
      obtain ⟨rfl, rfl⟩ := Prod.mk.inj (Option.some.inj h)
      cases hd with
      | cons d1 d2 =>
        cases d2
        exact ⟨_, mt_append, a, vs, _, rfl, rfl, ha, Nat.lt_of_lt_of_le (by rw [← hl.len]; exact hz) line100k, q _ _ (hl.append (.cons d1 .nil)) .non⟩
    · cases h
  · cases h
def gExtend : AH → List D → List D → Option (D × List D) := fun ah l ds => match ds with | [d] => (asL ah d).bind fun m => if l.length + m.length ≤ 100000 then some (.non, l ++ m) else none | _ => none
theorem m_extend : MutS X cl "list.extend" gExtend := fun s a l vs ds ws d l' Q h ok ha hl hd q => by
  unfold gExtend at h
  split at h
  · obtain ⟨m, h1, h2⟩ := Option.bind_eq_some_iff.mp h
    split at h2
    · rename_i hz
      obtain ⟨rfl, rfl⟩ := Prod.mk.inj (Option.some.inj h2)
      cases hd with
      | cons d1 d2 =>
        cases d2
        obtain ⟨b, us, rfl, hr, hs⟩ := asL_view h1 ok d1
        exact ⟨_, mt_extend, a, b, vs, us, rfl, rfl, ha, hr, Nat.le_trans (by rw [← hl.len, ← hs.len]; exact hz) line100k, q _ _ (hl.append hs) .non⟩
    · cases h2
  · cases h
def gPop : AH → List D → List D → Option (D × List D) := fun _ l ds => match ds with | [] => (l[l.length - 1]?).map fun d => (d, l.dropLast) | _ => none
theorem m_pop : MutS X cl "list.pop" gPop := fun s a l vs ds ws d l' Q h ok ha hl hd q => by
  unfold gPop at h
  split at h
  · obtain ⟨d', h1, h2⟩ := Option.map_eq_some_iff.mp h
    obtain ⟨rfl, rfl⟩ := Prod.mk.inj h2
    cases hd
    obtain ⟨v, h3, h4⟩ := hl.get h1
    exact ⟨_, mt_pop, a, vs, v, rfl, rfl, ha, by rw [← hl.len]; exact h3, q _ _ hl.dropLast h4⟩
  · cases h
def gPopAt : AH → List D → List D → Option (D × List D) := fun _ l ds => match ds with
  | [.int i] => if 0 ≤ i ∧ i < 1000000 then (l[i.toNat]?).map fun d => (d, l.eraseIdx i.toNat) else none
  | _ => none
theorem m_popAt : MutS X cl "list.pop" gPopAt := fun s a l vs ds ws d l' Q h ok ha hl hd q => by
  unfold gPopAt at h
  split at h
  · rename_i i
    split at h
    · rename_i hi
      obtain ⟨d', h1, h2⟩ := Option.map_eq_some_iff.mp h
      obtain ⟨rfl, rfl⟩ := Prod.mk.inj h2
      cases hd with
      | cons d1 d2 =>
        cases d1
        cases d2
        obtain ⟨v, h3, h4⟩ := hl.get h1
        have hlt := (List.getElem?_eq_some_iff.mp h3).1
        refine ⟨_, mt_popAt, a, vs, i, i.toNat, v, rfl, rfl, ha, by omega, by omega, ?_, h3, q _ _ (hl.eraseIdx _) h4⟩
        exact seqIndex_of hi.1 (by omega)
    · cases h
  · cases h
def gReverse : AH → List D → List D → Option (D × List D) := fun _ l ds => match ds with | [] => some (.non, l.reverse) | _ => none
theorem m_reverse : MutS X cl "list.reverse" gReverse := fun s a l vs ds ws d l' Q h ok ha hl hd q => by
  unfold gReverse at h
  split at h
  · obtain ⟨rfl, rfl⟩ := Prod.mk.inj (Option.some.inj h)
    cases hd
    exact ⟨_, mt_reverse, a, vs, rfl, rfl, ha, q _ _ hl.reverse .non⟩
  · cases h
def gClear : AH → List D → List D → Option (D × List D) := fun _ l ds => match ds with | [] => some (.non, []) | _ => none
theorem m_clear : MutS X cl "list.clear" gClear := fun s a l vs ds ws d l' Q h ok ha hl hd q => by
  unfold gClear at h
  split at h
  · obtain ⟨rfl, rfl⟩ := Prod.mk.inj (Option.some.inj h)
    cases hd
    exact ⟨_, mt_clear, a, vs, rfl, rfl, ha, q _ _ .nil .non⟩
  · cases h
def gInsert : AH → List D → List D → Option (D × List D) := fun _ l ds => match ds with
  | [.int i, d] => if 0 ≤ i ∧ i < 1000000 ∧ l.length < 100000 then some (.non, l.take i.toNat ++ [d] ++ l.drop i.toNat) else none
  | _ => none
theorem m_insert : MutS X cl "list.insert" gInsert := fun s a l vs ds ws d l' Q h ok ha hl hd q => by
  unfold gInsert at h
  split at h
  · rename_i i d'
    split at h
    · rename_i hi
      obtain ⟨rfl, rfl⟩ := Prod.mk.inj (Option.some.inj h)
      cases hd with
      | cons d1 d2 =>
        cases d1
        cases d2 with
        | cons d3 d4 =>
          cases d4
          exact ⟨_, mt_insert, a, vs, i, _, rfl, rfl, ha, Nat.lt_of_lt_of_le (by rw [← hl.len]; exact hi.2.2) line100k, hi.1, by omega, q _ _ (((hl.take _).append (.cons d3 .nil)).append (hl.drop _)) .non⟩
    · cases h
  · cases h
/-! ### methods of data -/
def gJoin (ah : AH) (x y : D) : Option D := match x with
  | .str a => (match y with | .tup l => some l | y => asL ah y).bind fun l => (strsOf l).bind fun ys => if (ys.map Str.length).sum + ys.length * a.length ≤ 100000 then some (.str (Txt.join a ys)) else none
  | _ => none
def eJoin (mo ma : ME) : ME := eBin gJoin mo ma
theorem join_line : (100000 : Nat) ≤ 16777216 := by decide
/-- hp: pe_bm0-like: pe_m1 slot_str_join type_str_join mtr_any peW peW -/
theorem re_join (hp : PE X c (tM1 (rMA X "str.join") (WE X o) (WE X e))) (ho : RE X cl o mo) (ha : RE X cl e ma) : RE X cl c (eJoin mo ma) := fun δ s σ d ah' Q h ok sv q => by
  obtain ⟨⟨z, za⟩, h1, h2⟩ := Option.bind_eq_some_iff.mp h
  obtain ⟨r, h3, h4⟩ := Option.bind_eq_some_iff.mp h2
  obtain ⟨d', h5, h6⟩ := Option.map_eq_some_iff.mp h4
  obtain ⟨rfl, rfl⟩ := Prod.mk.inj h6
  cases z with
  | str a =>
    unfold gJoin at h5
    obtain ⟨l, h7, h8⟩ := Option.bind_eq_some_iff.mp h5
    obtain ⟨ys, h9, h10⟩ := Option.bind_eq_some_iff.mp h8
    split at h10
    · rename_i hz
      cases h10
      refine WE.of hp (ho δ s σ _ _ _ h1 ok sv fun s1 v l1 e1 d1 => ?_)
      cases d1
      refine ⟨⟨a, rfl⟩, ha δ s1 σ r.1 r.2 _ (by rw [e1]; exact h3) l1.ok (sv.le l1) fun s2 w l2 e2 d2 => ?_⟩
      have fin : ∀ p vs, w = V.ref p → (SqL X.K s2.H p vs ∨ SqT X.K s2.H p vs) → DVs (gx X cl) s2 l vs → rMA X "str.join" (.str a) [w] s2.H Q := fun p vs ew hr hs => by
        have e := strsOf_v hs h9
        subst e
        exact ⟨_, mt_join, a, p, ys, rfl, by rw [ew], hr, Nat.le_trans hz join_line, q s2 _ (l1.trans l2) e2 (.str _)⟩
      split at h7
      · rename_i m em
        cases h7
        rw [em] at d2
        obtain ⟨p, vs, ew, hr, hs⟩ := tup_view d2
        exact fin p vs ew (.inr hr) hs
      · obtain ⟨p, vs, ew, hr, hs⟩ := asL_view (l := l) (by rw [e2]; exact h7) l2.ok d2
        exact fin p vs ew (.inl (.inl (.inl hr))) hs
    · cases h10
  | _ => cases h5
/-- s.index(t), found -/
def gSIndex (_ : AH) (x y : D) : Option D := match x, y with
  | .str a, .str b => match Builtin.Str.occurrences a b 0 a.length 1 with | i :: _ => some (.int (i : Nat)) | [] => none
  | _, _ => none
def eSIndex (mo ma : ME) : ME := eBin gSIndex mo ma
theorem re_sindex (hp : PE X c (tM1 (rMA X "str.index") (WE X o) (WE X e))) (ho : RE X cl o mo) (ha : RE X cl e ma) : RE X cl c (eSIndex mo ma) := fun δ s σ d ah' Q h ok sv q => by
  obtain ⟨⟨z, za⟩, h1, h2⟩ := Option.bind_eq_some_iff.mp h
  obtain ⟨⟨r, ra⟩, h3, h4⟩ := Option.bind_eq_some_iff.mp h2
  obtain ⟨d', h5, h6⟩ := Option.map_eq_some_iff.mp h4
  obtain ⟨rfl, rfl⟩ := Prod.mk.inj h6
  unfold gSIndex at h5
  simp only at h5
  split at h5
  · rename_i a b
    split at h5
    · rename_i i rs ho'
      cases h5
      refine WE.of hp (ho δ s σ _ _ _ h1 ok sv fun s1 v l1 e1 d1 => ?_)
      cases d1
      refine ⟨⟨a, rfl⟩, ha δ s1 σ _ _ _ (by rw [e1]; exact h3) l1.ok (sv.le l1) fun s2 w l2 e2 d2 => ?_⟩
      cases d2
      exact ⟨_, mt_sindex, a, b, i, rs, rfl, rfl, ho', q s2 _ (l1.trans l2) e2 (.int _)⟩
    · cases h5
  · cases h5
/-- a written tuple of texts: its place -/
structure Tc (K : PySem.W.Frag) (mg : Str → Option Value) (x : Str) (a : Addr) (xs : List Str) : Prop where
  at_ : mg x = some (.ref a)
  ex : ∃ o its n, K.lookup a = some o ∧ o.cls = .type "tuple" ∧ o.dict = none ∧ o.data = .seq its n ∧ its.size ≤ sizeLine ∧ Vals (xs.map V.str) its.toList
theorem Tc.gc {K : PySem.W.Frag} {mg : Str → Option Value} {x : Str} {a : Addr} {xs : List Str} (t : Tc K mg x a xs) : Gc K mg x (.tup (xs.map .str)) := by
  obtain ⟨o, its, n, h1, h2, h3, h4, h5, h6⟩ := t.ex
  exact ⟨_, .ref a, t.at_, rfl, fun cl s => .tupK h1 h2 h4 h5 h6 (strs_dv xs)⟩
def idxS (z : Str) : List Str → Option Nat
  | [] => none
  | x :: r => if x = z then some 0 else (idxS z r).map (· + 1)
theorem idxS_at {z : Str} : ∀ {xs : List Str} {j : Nat}, idxS z xs = some j → xs[j]? = some z ∧ ∀ m, m < j → xs[m]? ≠ some z
  | [], _, h => by cases h
  | x :: r, j, h => by
    unfold idxS at h
    split at h
    · rename_i e
      cases h
      exact ⟨by rw [e]; rfl, fun m hm => absurd hm (Nat.not_lt_zero _)⟩
    · rename_i e
      obtain ⟨k, h1, rfl⟩ := Option.map_eq_some_iff.mp h
      obtain ⟨h2, h3⟩ := idxS_at h1
      refine ⟨by simpa using h2, fun m hm => ?_⟩
      cases m with
      | zero => simpa using e
      | succ m => simpa using h3 m (by omega)
def eTIndex (xs : List Str) (ma : ME) : ME := fun δ ah => (ma δ ah).bind fun p => match p.1 with | .str z => (idxS z xs).map fun j => (.int (j : Nat), p.2) | _ => none
/-- hp: pe_bm plainAttrs_tuple slot_tuple_index type_tuple_index mtr_any (pe_glob (by rfl) t.at_ rfl) (pa_cons peW pa_nil) -/
theorem re_tindex {xs : List Str} {a : Addr} (t : Tc X.K X.mg x a xs) (hp : PE X c (tBM X.K "tuple" (rMA X "tuple.index") (tC (.ref a)) (tCons (WE X e) tNil))) (ha : RE X cl e ma) : RE X cl c (eTIndex xs ma) := fun δ s σ d ah' Q h ok sv q => by
  obtain ⟨⟨z, za⟩, h1, h2⟩ := Option.bind_eq_some_iff.mp h
  cases z with
  | str z =>
    obtain ⟨j, h3, h4⟩ := Option.map_eq_some_iff.mp h2
    obtain ⟨rfl, rfl⟩ := Prod.mk.inj h4
    obtain ⟨o, its, n, k1, k2, k3, k4, k5, k6⟩ := t.ex
    obtain ⟨i1, i2⟩ := idxS_at h3
    refine WE.of hp ⟨.inr (.inl ⟨rfl, o, k1, k2, k3⟩), ha δ s σ _ _ _ h1 ok sv fun s1 v l1 e1 d1 => ?_⟩
    cases d1
    exact ⟨_, mt_tup_index, a, xs, z, j, rfl, rfl, .inr ⟨o, its, n, k1, k2, k4, k5, k6⟩, i1, i2, q s1 _ l1 e1 (.int _)⟩
  | _ => cases h2
end
end MM

set_option linter.all false
set_option maxRecDepth 100000
namespace MM
open PySem L2

/-! ### statements' mirrors -/
inductive Out where
  | nx (δ : DL) | rt (d : D) | bk (δ : DL) | ct (δ : DL)
abbrev MS := DL → AH → Option (Out × AH)
abbrev MF := List D → AH → Option (D × AH)
def EndOk (G : Gx) (E : Ends) (s : S) : Out → Prop
  | .nx δ => ∀ σ, SV G s δ σ → E.nx σ s.H
  | .rt d => ∀ v, DV G s d v → E.rt v s.H
  | .bk δ => ∀ σ, SV G s δ σ → E.bk σ s.H
  | .ct δ => ∀ σ, SV G s δ σ → E.ct σ s.H
def RS (X : Cx) (cl : Str → Option Addr) (st : Stmt) (m : MS) : Prop := ∀ (δ : DL) (s : S) (σ : St) (o : Out) (ah' : AH) (E : Ends), m δ s.ah = some (o, ah') → Ok (gx X cl) s → SV (gx X cl) s δ σ →
  (∀ s', Le (gx X cl) s s' → s'.ah = ah' → EndOk (gx X cl) E s' o) → WS X st E σ s.H
def RSs (X : Cx) (cl : Str → Option Addr) (st : List Stmt) (m : MS) : Prop := ∀ (δ : DL) (s : S) (σ : St) (o : Out) (ah' : AH) (E : Ends), m δ s.ah = some (o, ah') → Ok (gx X cl) s → SV (gx X cl) s δ σ →
  (∀ s', Le (gx X cl) s s' → s'.ah = ah' → EndOk (gx X cl) E s' o) → WSs X st E σ s.H

/-! ### what a def promises -/
def trim (ah : AH) (p : D × AH) : D × AH := if (D.bd ah.length p.1 && (p.2.take ah.length).all (AO.bd ah.length)) = true then (p.1, p.2.take ah.length) else p
theorem trim_step {G : Gx} {s s' : S} {d d' : D} {v : V} {ah' : AH} (ok : Ok G s) (l : Le G s s') (x : DV G s' d v) (h : trim s.ah (d, s'.ah) = (d', ah')) : ∃ s'', Le G s s'' ∧ s''.ah = ah' ∧ s''.H = s'.H ∧ DV G s'' d' v := by
  unfold trim at h
  split at h
  · rename_i hc
    rw [Bool.and_eq_true] at hc
    obtain ⟨rfl, rfl⟩ := Prod.mk.inj h
    obtain ⟨l2, c⟩ := le_trim ok l hc.2
    exact ⟨_, l2, rfl, rfl, x.cut c (by rw [ok.len]; exact hc.1)⟩
  · obtain ⟨rfl, rfl⟩ := Prod.mk.inj h
    exact ⟨s', l, rfl, rfl, x⟩
def mfn (n k : Nat) (ms : MS) : MF := fun ds ah => if ds.length = k then (ms (ds.map some ++ List.replicate (n - k) none) ah).bind fun o => match o.1 with
  | .rt d => some (trim ah (d, o.2))
  | .nx _ => some (trim ah (.non, o.2))
  | _ => none
  else none
def spM (K : PySem.W.Frag) (cl : Str → Option Addr) (mf : MF) (k : Nat) : Sp := fun vs H Q _ => vs.length = k ∧ ∃ s ds d ah', s.H = H ∧ mf ds s.ah = some (d, ah') ∧ Ok ⟨K, cl⟩ s ∧ DVs ⟨K, cl⟩ s ds vs ∧ ∀ s' v, Le ⟨K, cl⟩ s s' → s'.ah = ah' → DV ⟨K, cl⟩ s' d v → Q v s'.H
theorem sv_start {G : Gx} {s : S} {N : List Str} {ds : List D} {vs : List V} {k : Nat} (h : DVs G s ds vs) (hk : vs.length = k) : SV G s (ds.map some ++ List.replicate (N.length - k) none) (L2.start N vs) := by
  subst hk
  refine ⟨by simp [L2.start, h.len], fun i d e => ?_⟩
  unfold L2.start
  by_cases hi : i < ds.length
  · rw [List.getElem?_append_left (by simpa using hi)] at e
    rw [List.getElem?_append_left (by simpa [← h.len] using hi)]
    rw [List.getElem?_map] at e
    cases q : ds[i]? with
    | none => rw [q] at e; cases e
    | some d' =>
      rw [q] at e
      have : d' = d := by simpa using e
      subst this
      obtain ⟨v, h1, h2⟩ := h.get q
      exact ⟨v, by rw [List.getElem?_map, h1]; rfl, h2⟩
  · rw [List.getElem?_append_right (by simpa using Nat.le_of_not_lt hi)] at e
    rw [List.getElem?_replicate] at e
    split at e <;> cases e
section
variable {P : Program} {w : World} {K : PySem.W.Frag} {mg : Str → Option Value} {base : Heap}
theorem fn_ok {x qual : Str} {st : Stmt} {f : Addr} {fd : FuncData} {N ps : List Str} {k : Nat} {cl : Str → Option Addr} {ms : MS} {n p : Nat} (F : Fun K x qual st f fd) (sc : FnScope N ps (defScope st)) (hn : N.length = n := by rfl) (hp : ps.length = p := by rfl)
    (hb : ∀ (cdv : Value) (A : Around) (outer : List Env) (s : Shared) (H : Hp) (E : XK), Room k (A.deeper (PyProof.Rows.envOfC qual (defScope st) s.heap.objs.size f cdv)) → RSs (cxOf CX0 P w K mg base N qual (defScope st) f cdv A outer s H E).nox cl (defBody st) ms) :
    FnOk P w K mg base CX0 (k + 1) f fd ps (spM K cl (mfn n p ms) p) := by
  subst hn hp
  refine F.ok sc (fun vs H Q E h => h.1) (fun cdv A outer s H vs Q E hr h => ?_)
  obtain ⟨hl, S, ds, d, ah', eH, h1, ok, dv, q⟩ := h
  subst eH
  unfold mfn at h1
  split at h1
  · rename_i hd
    obtain ⟨⟨o, ah2⟩, h2, h3⟩ := Option.bind_eq_some_iff.mp h1
    refine ⟨_, pssW, hb cdv A outer s S.H E hr _ S _ o ah2 _ h2 ok (sv_start dv hl) fun s1 l1 e1 => ?_⟩
    cases o with
    | rt d1 =>
      intro v dv1
      obtain ⟨s2, l2, e2, eh, d2⟩ := trim_step (d' := d) (ah' := ah') ok l1 dv1 (by rw [e1]; exact Option.some.inj h3)
      show Q v s1.H
      rw [← eh]
      exact q s2 v l2 e2 d2
    | nx δ1 =>
      intro σ' _
      obtain ⟨s2, l2, e2, eh, d2⟩ := trim_step (d := .non) (v := .non) (d' := d) (ah' := ah') ok l1 .non (by rw [e1]; exact Option.some.inj h3)
      show Q .non s1.H
      rw [← eh]
      exact q s2 _ l2 e2 d2
    | _ => cases h3
  · cases h1
end

/-! ### calls -/
def eCall (mf : MF) (ma : MA) : ME := fun δ ah => (ma δ ah).bind fun p => mf p.1 p.2
/-- the instance's class and attributes -/
def asI (ah : AH) : D → Option (Str × List (Str × D))
  | .ins c f => some (c, f)
  | .ptr n => match ah[n]? with | some (.ins c f) => some (c, f) | _ => none
  | _ => none
def eFld (cs : List Str) (f : Str) (mo : ME) : ME := fun δ ah => (mo δ ah).bind fun p => (asI p.2 p.1).bind fun q => if q.1 ∈ cs then (q.2.lookup f).map fun d => (d, p.2) else none
def eMeth (tbl : List (Str × MF)) (m : Str) (mo : ME) (ma : MA) : ME := fun δ ah => (mo δ ah).bind fun p => (asI p.2 p.1).bind fun q => (tbl.lookup q.1).bind fun mf => match q.2.lookup m with
  | none => (ma δ p.2).bind fun r => mf (p.1 :: r.1) r.2
  | some _ => none
def eMake (c : Str) (mf : MF) (ma : MA) : ME := fun δ ah => (ma δ ah).bind fun p => (mf (.ptr p.2.length :: p.1) (p.2 ++ [.ins c []])).bind fun r => match r.1 with | .non => some (.ptr p.2.length, r.2) | _ => none
/-- .. taken as data; its own object at the heap's end is forgotten where nothing else has changed -/
def eMakeF (c : Str) (mf : MF) (ma : MA) : ME := fun δ ah => (eMake c mf ma δ ah).bind fun p => (freeze p).map fun q => trim ah q
section
variable {X : Cx} {cl : Str → Option Addr} {e o c : Expr} {es : List Expr} {ma mo : ME} {ms : MA} {x name : Str} {pos : Pos} {f : Str}
theorem re_call {mf : MF} {k : Nat} (hp : PE X c (tCall (spM X.K cl mf k) [] E0 (WA X es))) (hk : es.length = k := by rfl) (ha : RA X cl es ms) (hl : ∀ δ ah p, ms δ ah = some p → p.1.length = k) : RE X cl c (eCall mf ms) := fun δ s σ d ah' Q h ok sv q => by
  obtain ⟨p, h1, h2⟩ := Option.bind_eq_some_iff.mp h
  refine WE.of hp (ha δ s σ p.1 p.2 _ h1 ok sv fun s1 vs l1 e1 d1 => ?_)
  refine ⟨by rw [List.append_nil, ← d1.len]; exact hl _ _ _ h1, s1, p.1, d, ah', rfl, by rw [e1]; exact h2, l1.ok, by rw [List.append_nil]; exact d1, fun s2 v l2 e2 d2 => q s2 v (l1.trans l2) e2 d2⟩
theorem al_nil : ∀ δ ah p, aNil δ ah = some p → p.1.length = 0 := fun δ ah p h => by
  cases h
  rfl
theorem al_cons {k : Nat} (h : ∀ δ ah p, ms δ ah = some p → p.1.length = k) : ∀ δ ah p, aCons mo ms δ ah = some p → p.1.length = k + 1 := fun δ ah p h' => by
  obtain ⟨p, h1, h2⟩ := Option.bind_eq_some_iff.mp h'
  obtain ⟨r, h3, h4⟩ := Option.map_eq_some_iff.mp h2
  rw [← h4, List.length_cons, h _ _ _ h3]
theorem lookup_v {G : Gx} {s : S} {f : Str} : ∀ {l : List (Str × D)} {fs : List (Str × V)}, fs.map (·.1) = l.map (·.1) → DVs G s (l.map (·.2)) (fs.map (·.2)) →
    (l.lookup f = none → fs.lookup f = none) ∧ ∀ d, l.lookup f = some d → ∃ v, fs.lookup f = some v ∧ DV G s d v
  | [], [], _, _ => ⟨fun _ => rfl, fun d h => by cases h⟩
  | [], _ :: _, h, _ => by simp at h
  | _ :: _, [], h, _ => by simp at h
  | (j, d) :: l, (j', v) :: fs, h, hs => by
    simp only [List.map_cons, List.cons.injEq] at h hs
    obtain ⟨rfl, h⟩ := h
    cases hs with
    | cons h1 h2 =>
      obtain ⟨i1, i2⟩ := lookup_v (f := f) h h2
      cases e : (f == j') with
      | true => exact ⟨fun q => by simp [List.lookup_cons, e] at q, fun d' q => ⟨v, by simp [List.lookup_cons, e], by simp [List.lookup_cons, e] at q; rw [← q]; exact h1⟩⟩
      | false => exact ⟨fun q => by simp [List.lookup_cons, e] at q ⊢; simpa using i1 (by simpa using q), fun d' q => by
          simp only [List.lookup_cons, e] at q ⊢
          exact i2 d' q⟩
theorem asI_view {G : Gx} {s : S} {d : D} {v : V} {c : Str} {l : List (Str × D)} (h : asI s.ah d = some (c, l)) (ok : Ok G s) (x : DV G s d v) : ∃ a C dx fs, v = .ref a ∧ G.cl c = some C ∧ s.H a = some (.ins C dx fs) ∧ fs.map (·.1) = l.map (·.1) ∧ DVs G s (l.map (·.2)) (fs.map (·.2)) := by
  cases d with
  | ins c' f' =>
    obtain ⟨rfl, rfl⟩ := Prod.mk.inj (Option.some.inj h)
    cases x with
    | ins e hc _ hk hs => exact ⟨_, _, _, _, rfl, hc, e, hk, hs⟩
  | ptr n =>
    obtain ⟨a, e, rfl⟩ := ptr_at x
    cases q : s.ah[n]? with
    | none => rw [asI, q] at h; cases h
    | some o =>
      cases o with
      | ins c' f' =>
        rw [asI, q] at h
        obtain ⟨rfl, rfl⟩ := Prod.mk.inj (Option.some.inj h)
        obtain ⟨C, dx, fs, h1, h2, h3, h4⟩ := ok.obj n a _ e q
        exact ⟨a, C, dx, fs, rfl, h1, h2, h3, h4⟩
      | _ => rw [asI, q] at h; cases h
  | _ => cases h
/-- the classes cs have the attribute f as an instance's own -/
def FldOk (K : PySem.W.Frag) (cl : Str → Option Addr) (cs : List Str) (f : Str) : Prop := ∀ c ∈ cs, ∀ C, cl c = some C → Cls K C ∧ NoAttr K C f
theorem re_fld {cs : List Str} (hc : FldOk X.K cl cs f) (ho : RE X cl o mo) (hb : attributeBase o f X.env (eval o X.env) = eval o X.env := by rfl) : RE X cl (.Attribute o f pos) (eFld cs f mo) := fun δ s σ d ah' Q h ok sv q => by
  obtain ⟨p, h1, h2⟩ := Option.bind_eq_some_iff.mp h
  obtain ⟨⟨c, l⟩, h3, h4⟩ := Option.bind_eq_some_iff.mp h2
  split at h4
  · rename_i hm
    obtain ⟨d', h5, h6⟩ := Option.map_eq_some_iff.mp h4
    obtain ⟨rfl, rfl⟩ := Prod.mk.inj h6
    refine WE.of (pe_fld peW hb) (ho δ s σ p.1 p.2 _ h1 ok sv fun s1 v l1 e1 d1 => ?_)
    obtain ⟨a, C, dx, fs, rfl, k1, k2, k3, k4⟩ := asI_view (c := c) (l := l) (by rw [e1]; exact h3) l1.ok d1
    obtain ⟨w, k5, k6⟩ := (lookup_v k3 k4).2 _ h5
    exact ⟨a, C, dx, fs, w, rfl, k2, (hc c hm C k1).1, (hc c hm C k1).2, k5, q s1 w l1 e1 k6⟩
  · cases h4
/-- a method of a class, its mirror -/
def MethOk (X : Cx) (cl : Str → Option Addr) (k : Nat) (m c : Str) (mf : MF) (n : Nat) : Prop := ∃ C f fd ps, cl c = some C ∧ Cls X.K C ∧ Meth X.K C m f ∧ FnOk X.prog X.w X.K X.mg X.base CX0 k f fd ps (spM X.K cl mf n) ∧ Binds X.K fd ps []
theorem re_meth {tbl : List (Str × MF)} {m : Str} {k n : Nat} (hT : ∀ c mf, tbl.lookup c = some mf → MethOk X cl k m c mf (n + 1)) (hp : ∀ {C f fd ps sp}, Cls X.K C → Meth X.K C m f → FnOk X.prog X.w X.K X.mg X.base CX0 k f fd ps sp → Binds X.K fd ps [] → PE X c (tMeth C m sp [] E0 (WE X o) (WA X es)))
    (ho : RE X cl o mo) (ha : RA X cl es ms) (hl : ∀ δ ah p, ms δ ah = some p → p.1.length = n) : RE X cl c (eMeth tbl m mo ms) := fun δ s σ d ah' Q h ok sv q => by
  obtain ⟨p, h1, h2⟩ := Option.bind_eq_some_iff.mp h
  obtain ⟨⟨c', l⟩, h3, h4⟩ := Option.bind_eq_some_iff.mp h2
  obtain ⟨mf, h5, h6⟩ := Option.bind_eq_some_iff.mp h4
  simp only at h6
  split at h6
  · rename_i hn
    obtain ⟨r, h7, h8⟩ := Option.bind_eq_some_iff.mp h6
    obtain ⟨C, f, fd, ps, t1, t2, t3, t4, t5⟩ := hT c' mf h5
    refine WE.of (hp t2 t3 t4 t5) (ho δ s σ p.1 p.2 _ h1 ok sv fun s1 v l1 e1 d1 => ?_)
    obtain ⟨a, C', dx, fs, rfl, k1, k2, k3, k4⟩ := asI_view (c := c') (l := l) (by rw [e1]; exact h3) l1.ok d1
    obtain rfl : C' = C := Option.some.inj (k1.symm.trans t1)
    refine ⟨a, dx, fs, rfl, k2, (lookup_v k3 k4).1 hn, ha δ s1 σ r.1 r.2 _ (by rw [e1]; exact h7) l1.ok (sv.le l1) fun s2 vs l2 e2 d2 => ?_⟩
    refine ⟨by rw [List.append_nil, List.length_cons, ← d2.len, hl _ _ _ h7], s2, p.1 :: r.1, d, ah', rfl, by rw [e2]; exact h8, l2.ok, by rw [List.append_nil]; exact .cons (d1.le l2) d2, fun s3 v l3 e3 d3 => q s3 v (l1.trans (l2.trans l3)) e3 d3⟩
  · cases h6
theorem re_meth0 {tbl : List (Str × MF)} {m : Str} {k : Nat} (hT : ∀ c mf, tbl.lookup c = some mf → MethOk X cl k m c mf 1) (hp : ∀ {C f fd ps sp}, Cls X.K C → Meth X.K C m f → FnOk X.prog X.w X.K X.mg X.base CX0 k f fd ps sp → Binds X.K fd ps [] → PE X c (tMeth C m sp [] E0 (WE X o) tNil))
    (ho : RE X cl o mo) : RE X cl c (eMeth tbl m mo aNil) := fun δ s σ d ah' Q h ok sv q => by
  obtain ⟨p, h1, h2⟩ := Option.bind_eq_some_iff.mp h
  obtain ⟨⟨c', l⟩, h3, h4⟩ := Option.bind_eq_some_iff.mp h2
  obtain ⟨mf, h5, h6⟩ := Option.bind_eq_some_iff.mp h4
  simp only at h6
  split at h6
  · rename_i hn
    obtain ⟨r, h7, h8⟩ := Option.bind_eq_some_iff.mp h6
    cases h7
    obtain ⟨C, f, fd, ps, t1, t2, t3, t4, t5⟩ := hT c' mf h5
    refine WE.of (hp t2 t3 t4 t5) (ho δ s σ p.1 p.2 _ h1 ok sv fun s1 v l1 e1 d1 => ?_)
    obtain ⟨a, C', dx, fs, rfl, k1, k2, k3, k4⟩ := asI_view (c := c') (l := l) (by rw [e1]; exact h3) l1.ok d1
    obtain rfl : C' = C := Option.some.inj (k1.symm.trans t1)
    refine ⟨a, dx, fs, rfl, k2, (lookup_v k3 k4).1 hn, ?_⟩
    refine ⟨rfl, s1, [p.1], d, ah', rfl, by rw [e1]; exact h8, l1.ok, .cons d1 .nil, fun s3 v l3 e3 d3 => q s3 v (l1.trans l3) e3 d3⟩
  · cases h6
theorem re_make {mf : MF} {n : Nat} {C : Addr} {cn : Str} (hc : cl cn = some C) (hp : PE X c (tMake C (spM X.K cl mf (n + 1)) [] E0 (WA X es))) (ha : RA X cl es ms) (hl : ∀ δ ah p, ms δ ah = some p → p.1.length = n) : RE X cl c (eMake cn mf ms) := fun δ s σ d ah' Q h ok sv q => by
  obtain ⟨p, h1, h2⟩ := Option.bind_eq_some_iff.mp h
  obtain ⟨⟨r, ra⟩, h3, h4⟩ := Option.bind_eq_some_iff.mp h2
  cases r with
  | non =>
    obtain ⟨rfl, rfl⟩ := Prod.mk.inj (Option.some.inj h4)
    refine WE.of hp (ha δ s σ p.1 p.2 _ h1 ok sv fun s1 vs l1 e1 d1 x dx hx hdx hne => ?_)
    have l2 := le_new l1.ok hdx (.own x)
    have hx2 : (s1.up dx (.own x)).H x = none := by
      show upd s1.H dx (.own x) x = none
      rw [upd_ne hne.symm]
      exact hx
    have g3 := gr_add l2.ok hx2 (.ins cn []) (.ins C dx [])
    have l3 : Le (gx X cl) (s1.up dx (.own x)) ((s1.up dx (.own x)).add x (.ins cn []) (.ins C dx [])) := le_add l2.ok hx2 ⟨C, dx, [], hc, upd_same, rfl, .nil⟩
    have hp : DV (gx X cl) ((s1.up dx (.own x)).add x (.ins cn []) (.ins C dx [])) (.ptr p.2.length) (.ref x) := .ptr (by
      show (s1.ι ++ [x])[p.2.length]? = some x
      rw [← e1, ← l1.ok.len]
      exact List.getElem?_concat_length)
    refine ⟨by rw [List.append_nil, List.length_cons, ← d1.len, hl _ _ _ h1], (s1.up dx (.own x)).add x (.ins cn []) (.ins C dx []), .ptr p.2.length :: p.1, .non, ra, rfl, ?_, l3.ok, by rw [List.append_nil]; exact .cons hp ((d1.le l2).le l3), fun s4 v l4 e4 d4 => ?_⟩
    · show mf (.ptr p.2.length :: p.1) (s1.ah ++ [.ins cn []]) = _
      rw [e1]
      exact h3
    · cases d4
      exact ⟨rfl, q s4 _ (l1.trans (l2.trans (l3.trans l4))) e4 (hp.le l4)⟩
  | _ => cases h4
theorem re_trimF (h : RE X cl c mo) : RE X cl c (fun δ ah => (mo δ ah).bind fun p => (freeze p).map fun q => trim ah q) := fun δ s σ d ah' Q h' ok sv q => by
  obtain ⟨p, h1, h2⟩ := Option.bind_eq_some_iff.mp h'
  obtain ⟨r, h3, h4⟩ := Option.map_eq_some_iff.mp h2
  refine h δ s σ p.1 p.2 Q h1 ok sv fun s1 v l1 e1 d1 => ?_
  obtain ⟨s2, l2, e2, eH, _, d2⟩ := freeze_step (s := s1) (d := p.1) (d' := r.1) (ah' := r.2) (by rw [e1]; exact h3) l1.ok d1
  obtain ⟨s3, l3, e3, eh, d3⟩ := trim_step (d' := d) (ah' := ah') ok (l1.trans l2) d2 (by rw [e2]; exact h4)
  rw [← eH, ← eh]
  exact q s3 v l3 e3 d3
theorem re_makeF {mf : MF} {n : Nat} {C : Addr} {cn : Str} (hc : cl cn = some C) (hp : PE X c (tMake C (spM X.K cl mf (n + 1)) [] E0 (WA X es))) (ha : RA X cl es ms) (hl : ∀ δ ah p, ms δ ah = some p → p.1.length = n) : RE X cl c (eMakeF cn mf ms) := re_trimF (re_make hc hp ha hl)
/-! ### isinstance -/
def tyN (ah : AH) : D → Option String
  | .non => some "NoneType"
  | .bl _ => some "bool"
  | .int _ => some "int"
  | .str _ => some "str"
  | .tup _ => some "tuple"
  | .lst _ => some "list"
  | .dic _ => some "dict"
  | .ptr n => match ah[n]? with | some (.lst _) => some "list" | some (.dic _) => some "dict" | _ => none
  | _ => none
def isB (a T : String) : Bool := a == T || (a == "bool" && T == "int")
def eIsB (T : String) (mo : ME) : ME := fun δ ah => (mo δ ah).bind fun p => (tyN p.2 p.1).map fun a => (.bl (isB a T), p.2)
theorem kit_all : ∀ a ∈ ["NoneType", "bool", "int", "str", "tuple", "list", "dict"], ∀ T ∈ ["bool", "int", "str", "tuple", "list", "dict"], kitB a T = some (isB a T) := by decide +kernel
theorem tyN_v {G : Gx} {s : S} {d : D} {v : V} {a : String} (h : tyN s.ah d = some a) (ok : Ok G s) (x : DV G s d v) : TyX G.K s.H v (.type a) ∧ a ∈ ["NoneType", "bool", "int", "str", "tuple", "list", "dict"] := by
  cases x with
  | non => cases h; exact ⟨.base .non, by decide⟩
  | bl b => cases h; exact ⟨.base (.bl b), by decide⟩
  | int i => cases h; exact ⟨.base (.int i), by decide⟩
  | str i => cases h; exact ⟨.base (.str i), by decide⟩
  | tup e n hs =>
    cases h
    rcases e with e | ⟨o, e⟩
    · exact ⟨.base (.tup e), by decide⟩
    · exact ⟨.fTuple e, by decide⟩
  | tupK e c _ _ _ _ => cases h; exact ⟨.kTuple e c, by decide⟩
  | lst e n hs => cases h; exact ⟨.base (.lst e), by decide⟩
  | scr e n hs => cases h
  | scrK e hs => cases h
  | dic e n hk hs =>
    cases h
    rcases e with e | ⟨o, e⟩
    · exact ⟨.base (.dK e), by decide⟩
    · exact ⟨.fDict e, by decide⟩
  | dct e n hk hs => cases h
  | ins e c n hk hs => cases h
  | @ptr n b e =>
    cases q : s.ah[n]? with
    | none => rw [tyN, q] at h; cases h
    | some o =>
      cases o with
      | lst l =>
        rw [tyN, q] at h
        cases h
        obtain ⟨vs, h1, _⟩ := ok.obj n b _ e q
        exact ⟨.base (.lst h1), by decide⟩
      | dic l =>
        rw [tyN, q] at h
        cases h
        obtain ⟨vs, h1, _⟩ := ok.obj n b _ e q
        exact ⟨.base (.dK h1), by decide⟩
      | _ => rw [tyN, q] at h; cases h
/-- hp: pe_callB callr_any (by rfl) T.isinstance boot_isinstance (pa_cons peW (pa_cons (pe_bltn (by rfl) T.int boot_int rfl) pa_nil)) -/
theorem re_isB {T : String} (hp : PE X c (tCB (rCA X (.builtin "isinstance")) (tCons (WE X o) (tCons (tC (.ty T)) tNil)))) (hT : T ∈ ["bool", "int", "str", "tuple", "list", "dict"] := by decide) (ho : RE X cl o mo) : RE X cl c (eIsB T mo) := fun δ s σ d ah' Q h ok sv q => by
  obtain ⟨p, h1, h2⟩ := Option.bind_eq_some_iff.mp h
  obtain ⟨a, h3, h4⟩ := Option.map_eq_some_iff.mp h2
  obtain ⟨rfl, rfl⟩ := Prod.mk.inj h4
  refine WE.of hp (ho δ s σ p.1 p.2 _ h1 ok sv fun s1 v l1 e1 d1 => ?_)
  obtain ⟨t1, t2⟩ := tyN_v (by rw [e1]; exact h3) l1.ok d1
  exact ⟨_, call_isi, v, .ty T, .type a, .type T, isB a T, rfl, .ty T, t1, kit_ty (kit_all a t2 T hT), q s1 _ l1 e1 (.bl _)⟩
/-- an own class, asked of its instance -/
structure InsTy (K : PySem.W.Frag) (C : Addr) : Prop where
  cls : Cls K C
  ha : PySem.W.findIn K (.ref C) "__class__" = some (some (.builtin "object.__class__"))
  hn : PySem.W.specialIn K (.builtin "object.__class__") "__get__" = some (some (.builtin "getset_descriptor.__get__"))
  htk : PySem.W.takesIn K (.builtin "object.__class__") = some true
  hm : PySem.W.mroIn K C (.type "object") = some true
  kit : PySem.W.kitOne K (.ref C) (.ref C) = some true
def eIsC (cn : Str) (mo : ME) : ME := fun δ ah => (mo δ ah).bind fun p => (asI p.2 p.1).bind fun q => if q.1 = cn then some (.bl true, p.2) else none
theorem re_isC {C : Addr} {cn : Str} (hc : cl cn = some C) (I : InsTy X.K C) (hp : PE X c (tCB (rCA X (.builtin "isinstance")) (tCons (WE X o) (tCons (tC (.ref C)) tNil)))) (ho : RE X cl o mo) : RE X cl c (eIsC cn mo) := fun δ s σ d ah' Q h ok sv q => by
  obtain ⟨p, h1, h2⟩ := Option.bind_eq_some_iff.mp h
  obtain ⟨⟨c', l⟩, h3, h4⟩ := Option.bind_eq_some_iff.mp h2
  split at h4
  · rename_i e
    simp only at e
    subst e
    obtain ⟨rfl, rfl⟩ := Prod.mk.inj (Option.some.inj h4)
    refine WE.of hp (ho δ s σ p.1 p.2 _ h1 ok sv fun s1 v l1 e1 d1 => ?_)
    obtain ⟨a, C', dx, fs, rfl, k1, k2, k3, k4⟩ := asI_view (c := c') (l := l) (by rw [e1]; exact h3) l1.ok d1
    obtain rfl : C' = C := Option.some.inj (k1.symm.trans hc)
    exact ⟨_, call_isi, .ref a, .ref C', .ref C', .ref C', true, rfl, .own C', .base (.ins k2 I.cls I.ha I.hn I.htk I.hm), I.kit, q s1 _ l1 e1 (.bl _)⟩
  · cases h4
end
end MM

set_option linter.all false
set_option maxRecDepth 100000
namespace MM
open PySem PySem.Spec PyProof.Rows L2

/-- what a zip walks: a list, a tuple, a text -/
inductive Src where
  | lst (a : Addr) | tup (a : Addr) | txt (z : Str)
/-- its items -/
def SrcIs (K : PySem.W.Frag) (H : Hp) : Src → List V → Prop
  | .lst a, xs => SqL K H a xs
  | .tup a, xs => SqT K H a xs
  | .txt z, xs => xs = z.cps.toList.map fun c => V.str ⟨#[c]⟩
def Src.v : Src → V
  | .lst a => .ref a
  | .tup a => .ref a
  | .txt z => .str z
/-- its iterator at it -/
def SrcSt (it : Addr) (i : Nat) (h : Heap) : Src → Prop
  | .lst a => h.IsListIter it a i ∧ a < it
  | .tup a => h.IsTupleIter it a i ∧ a < it
  | .txt z => ∃ t, h.IsStrIter it (strIterType z) z t i
/-- what the library's zip asks of an iterator, of a heap at hand -/
structure DrawAt (prog : Program) (w : World) (A : Around) (it : Addr) (xs : List V) (src : Src) (i : Nat) (h : Heap) where
  fp : List Addr
  P : Nat → Value → Prop
  St : Nat → Heap → Prop
  D : Draws prog w A it fp xs.length P St
  st : St i h
  mem : it ∈ fp
  fps : ∀ b ∈ fp, b = it ∨ src.v = .ref b
  val : ∀ j v, P j v → ∃ x, xs[j]? = some x ∧ RelV x v
  back : ∀ j h', St j h' → SrcSt it j h' src
theorem draw_at {X : Cx} {pins : List (Addr × Obj)} {σ : L2.St} {H : Hp} {s : Shared} {it : Addr} {xs : List V} {src : Src} {i : Nat} {A : Around} (I : Inv X pins σ H s) (hh : A.handled = none) (hs : SrcIs X.K H src xs) (st : SrcSt it i s.heap src) : Nonempty (DrawAt X.prog X.w A it xs src i s.heap) := by
  cases src with
  | lst a =>
    obtain ⟨h1, hlt⟩ := st
    obtain ⟨its, r, pl, hz⟩ := I.list hs
    have hl : its.toArray.size = xs.length := by rw [List.size_toArray]; exact r.length.symm
    exact ⟨⟨[it, a], _, _, hl ▸ Draws.list hh it a (Nat.ne_of_lt hlt) its.toArray, ⟨h1, pl.isList⟩, by simp, fun b hb => (List.mem_cons.mp hb).imp id fun q => by rw [List.mem_singleton.mp q]; rfl, fun j v e => by
      obtain ⟨x, h2, h3⟩ := (show ∃ x, xs[j]? = some x ∧ RelV x v from by
        have e2 : its[j]? = some v := by simpa using e
        have hj := (List.getElem?_eq_some_iff.mp e2).1
        have hj' : j < xs.length := by rw [r.length]; exact hj
        obtain ⟨u, hu, ru⟩ := r.get (List.getElem?_eq_getElem hj')
        exact ⟨_, List.getElem?_eq_getElem hj', by rw [hu] at e2; cases e2; exact ru⟩)
      exact ⟨x, h2, h3⟩, fun j h' q => ⟨q.1, hlt⟩⟩⟩
  | tup a =>
    obtain ⟨h1, hlt⟩ := st
    obtain ⟨its, r, pl, hz⟩ := I.tuple hs
    have hl : its.toArray.size = xs.length := by rw [List.size_toArray]; exact r.length.symm
    exact ⟨⟨[it, a], _, _, hl ▸ Draws.tuple hh it a (Nat.ne_of_lt hlt) its.toArray, ⟨h1, pl⟩, by simp, fun b hb => (List.mem_cons.mp hb).imp id fun q => by rw [List.mem_singleton.mp q]; rfl, fun j v e => by
      have e2 : its[j]? = some v := by simpa using e
      have hj := (List.getElem?_eq_some_iff.mp e2).1
      have hj' : j < xs.length := by rw [r.length]; exact hj
      obtain ⟨u, hu, ru⟩ := r.get (List.getElem?_eq_getElem hj')
      exact ⟨_, List.getElem?_eq_getElem hj', by rw [hu] at e2; cases e2; exact ru⟩, fun j h' q => ⟨q.1, hlt⟩⟩⟩
  | txt z =>
    obtain ⟨t, h1⟩ := st
    have hs' : xs = z.cps.toList.map fun c => V.str ⟨#[c]⟩ := hs
    have hl : z.cps.size = xs.length := by rw [hs']; simp
    exact ⟨⟨[it], _, _, hl ▸ Draws.text hh it z t, h1, by simp, fun b hb => .inl (List.mem_singleton.mp hb), fun j v e => by
      obtain ⟨c, u, hc, rfl⟩ := e
      refine ⟨.str ⟨#[c]⟩, ?_, ⟨u, rfl⟩⟩
      rw [hs', List.getElem?_map]
      have : z.cps.toList[j]? = some c := by simpa using hc
      rw [this]
      rfl, fun j h' q => ⟨t, q⟩⟩⟩
def ItZ (K : PySem.W.Frag) (p q : Src) : It :=
  ⟨fun i H => ∃ xs ys x y, SrcIs K H p xs ∧ SrcIs K H q ys ∧ xs[i]? = some x ∧ ys[i]? = some y,
    fun i H v H' => ∃ T x y, v = .ref T ∧ H T = none ∧ H' = upd H T (.tup [x, y]) ∧ (∀ xs, SrcIs K H p xs → xs[i]? = some x) ∧ ∀ ys, SrcIs K H q ys → ys[i]? = some y,
    fun i H => ∃ xs ys, SrcIs K H p xs ∧ SrcIs K H q ys ∧ i = min xs.length ys.length⟩
structure Apart (N : Nat) (p q : Src) : Prop where
  p : ∀ b, p.v = .ref b → b < N
  q : ∀ b, q.v = .ref b → b < N
theorem Apart.sep {prog : Program} {w : World} {A : Around} {N i : Nat} {p q : Src} (a : Apart N p q) {xs ys : List V} {h : Heap} (d1 : DrawAt prog w A N xs p i h) (d2 : DrawAt prog w A (N + 1) ys q i h) : ZipSep2 (N + 4) (N + 2) (N + 3) N (N + 1) d1.fp d2.fp := by
  have f1 : ∀ b ∈ d1.fp, b = N ∨ b < N := fun b hb => (d1.fps b hb).imp id fun e => a.p b e
  have f2 : ∀ b ∈ d2.fp, b = N + 1 ∨ b < N := fun b hb => (d2.fps b hb).imp id fun e => a.q b e
  have n1 : ∀ k, 0 < k → N + k ∉ d1.fp := fun k hk hb => by
    rcases f1 _ hb with e | e
    · exact absurd (show (N + k : Nat) = N from e) (by omega)
    · exact absurd (show (N + k : Nat) < N from e) (by omega)
  have n2 : ∀ k, k ≠ 1 → N + k ∉ d2.fp := fun k hk hb => by
    rcases f2 _ hb with e | e
    · exact absurd (show (N + k : Nat) = N + 1 from e) (by omega)
    · exact absurd (show (N + k : Nat) < N from e) (by omega)
  exact { TIz := show (N + 2 : Nat) ≠ N + 4 by omega, TOz := show (N + 3 : Nat) ≠ N + 4 by omega, TITO := show (N + 2 : Nat) ≠ N + 3 by omega, TIi1 := show (N + 2 : Nat) ≠ N by omega, mem1 := d1.mem, zf1 := n1 4 (by omega), Tf1 := n1 3 (by omega)
          TIi2 := show (N + 2 : Nat) ≠ N + 1 by omega, mem2 := d2.mem, zf2 := n2 4 (by omega), Tf2 := n2 3 (by omega), sep1_2 := n2 0 (by omega), sep2_1 := n1 1 (by omega) }
def ZSt (N : Nat) (p q : Src) (i : Nat) (h : Heap) : Prop := IsZip h (N + 4) (N + 2) (N + 3) .none ∧ IsTupOf2 h (N + 2) (.ref N) (.ref (N + 1)) ∧ (∃ a1 a2, IsTupOf2 h (N + 3) a1 a2) ∧ SrcSt N i h p ∧ SrcSt (N + 1) i h q
theorem SrcSt.obj {it : Addr} {i : Nat} {h : Heap} : ∀ {src : Src}, SrcSt it i h src → ∃ o, h.get? it = some o ∧ ∀ v, o.data ≠ .cell v
  | .lst _, ⟨⟨o, e, _, d⟩, _⟩ => ⟨o, e, fun v q => by rw [d] at q; cases q⟩
  | .tup _, ⟨⟨o, e, _, d⟩, _⟩ => ⟨o, e, fun v q => by rw [d] at q; cases q⟩
  | .txt _, ⟨_, o, e, _, d⟩ => ⟨o, e, fun v q => by rw [d] at q; cases q⟩
theorem SrcSt.keep {it : Addr} {i : Nat} {h h' : Heap} (k : ∀ o, h.get? it = some o → h'.get? it = some o) : ∀ {src : Src}, SrcSt it i h src → SrcSt it i h' src
  | .lst _, ⟨⟨o, e, r⟩, l⟩ => ⟨⟨o, k o e, r⟩, l⟩
  | .tup _, ⟨⟨o, e, r⟩, l⟩ => ⟨⟨o, k o e, r⟩, l⟩
  | .txt _, ⟨t, o, e, r⟩ => ⟨t, o, k o e, r⟩
theorem SrcIs.inj {X : Cx} {pins : List (Addr × Obj)} {σ : L2.St} {H : Hp} {s : Shared} (I : Inv X pins σ H s) : ∀ {src : Src} {xs ys : List V}, SrcIs X.K H src xs → SrcIs X.K H src ys → xs = ys
  | .lst _, _, _, h, h' => I.list_inj h h'
  | .tup _, _, _, h, h' => I.tuple_inj h h'
  | .txt _, _, _, h, h' => Eq.trans h (Eq.symm h')
theorem Src.lt {X : Cx} {pins : List (Addr × Obj)} {σ : L2.St} {H : Hp} {s : Shared} (I : Inv X pins σ H s) : ∀ {src : Src} {xs : List V}, SrcIs X.K H src xs → ∀ b, src.v = .ref b → b < s.heap.objs.size
  | .lst _, _, h, b, e => by
    cases e
    obtain ⟨_, _, p, _⟩ := I.list h
    exact p.lt
  | .tup _, _, h, b, e => by
    cases e
    obtain ⟨_, _, p, _⟩ := I.tuple h
    exact p.lt
  | .txt _, _, h, b, e => by cases e
theorem turn_zipG {P : Program} {w : World} {K : PySem.W.Frag} {elts : List Expr} {kk : Nat} {tpos : Pos} {p q : Src} {N : Nat} (ap : Apart N p q) :
    Turn P w K (.Tuple elts kk tpos) (ItZ K p q) [N + 4, N + 2, N + 3, N, N + 1] (N + 4) (ZSt N p q) where
  mem := by simp
  obj := fun i h st c hc => by
    obtain ⟨hz, hTI, ⟨x, y, hTO⟩, h1, h2⟩ := st
    simp only [List.mem_cons, List.not_mem_nil, or_false] at hc
    rcases hc with rfl | rfl | rfl | rfl | rfl
    · exact ⟨_, hz, fun v q => nomatch q⟩
    · exact ⟨_, hTI, fun v q => nomatch q⟩
    · exact ⟨_, hTO, fun v q => nomatch q⟩
    · exact h1.obj
    · exact h2.obj
  keep := fun i h h' st k => by
    obtain ⟨hz, hTI, ⟨x, y, hTO⟩, h1, h2⟩ := st
    exact ⟨k _ (by simp) _ hz, k _ (by simp) _ hTI, ⟨x, y, k _ (by simp) _ hTO⟩, h1.keep fun o e => k _ (by simp) o e, h2.keep fun o e => k _ (by simp) o e⟩
  item := by
    intro X hP hw hK hc i pins s σ H E I hf st hg
    subst hP hw hK
    obtain ⟨hz, hTI, ⟨x0, y0, hTO⟩, h1, h2⟩ := st
    obtain ⟨xs, ys, x, y, hqx, hqy, hx, hy⟩ := hg
    have hh : X.A.in1.handled = none := I.ok.hd hc
    obtain ⟨d1⟩ := draw_at (A := X.A.in1) I hh hqx h1
    obtain ⟨d2⟩ := draw_at (A := X.A.in1) I hh hqy h2
    have S := ap.sep d1 d2
    have hzl : N + 4 < s.heap.objs.size := Heap.lt_size hz
    refine wpAny_pyNext_zipD2_item S d1.D d2.D hz hTI hTO d1.st d2.st (List.getElem?_eq_some_iff.mp hx).1 (List.getElem?_eq_some_iff.mp hy).1 fun u u2 h' tk p1 p2 z' TO' h1' h2' hT hsz hk => ?_
    obtain ⟨x', ex, ru⟩ := d1.val _ _ p1
    obtain ⟨y', ey, ru2⟩ := d2.val _ _ p2
    obtain rfl : x' = x := Option.some.inj (ex.symm.trans hx)
    obtain rfl : y' = y := Option.some.inj (ey.symm.trans hy)
    refine ⟨_, rfl, wpAny_letOwnedTupleGo_zip (s := { s with heap := h', toks := tk }) z' fun h'' z'' sb => ?_⟩
    have hT2 : h''.get? s.heap.objs.size = some { cls := .type "tuple", data := .seq #[u, u2] } := (sb.2 _ (Nat.ne_of_gt hzl)).trans hT
    have new : ObjOk X.prog X.w (upd H s.heap.objs.size (.tup [x', y'])) h'' s.heap.objs.size (.tup [x', y']) :=
      ⟨by show 2 ≤ sizeLine; decide, [u, u2], .cons ru (.cons ru2 .nil), ⟨_, hT2, rfl, _, rfl⟩⟩
    have I1 : Inv X pins σ (upd H s.heap.objs.size (.tup [x', y'])) { s with heap := h'', toks := tk } :=
      I.turnedNew (t' := tk) (ch := [N + 4, N + 2, N + 3, N, N + 1]) (fun c o hb q => (sb.2 c (fun q' => hb (by simp [q']))).trans (hk c o (fun q' => hb (by simp [q'])) (fun q' => hb (by simp [q'])) (fun q' => hb (by simp [q'])) (fun q' => hb (by simp [q'])) q)) hf (Nat.le_refl _) new
    refine ⟨.ref s.heap.objs.size, _, I1, rfl, ⟨_, x', y', rfl, I.hok.fresh (Nat.le_refl _), rfl, fun l hl => by rw [SrcIs.inj I hl hqx]; exact hx, fun l hl => by rw [SrcIs.inj I hl hqy]; exact hy⟩, ⟨z'', ?_, ⟨u, u2, ?_⟩, ?_, ?_⟩, fun c hcm => ?_⟩
    · exact (sb.2 _ S.TIz).trans (hk _ _ S.TIz S.TITO S.TIi1 S.TIi2 hTI)
    · exact (sb.2 _ S.TOz).trans TO'
    · exact (d1.back _ _ h1').keep fun o e => (sb.2 _ S.zi1.symm).trans e
    · exact (d2.back _ _ h2').keep fun o e => (sb.2 _ S.zi2.symm).trans e
    · have hlt : c < s.heap.objs.size := by
        have hcm' := hcm
        simp only [List.mem_cons, List.not_mem_nil, or_false] at hcm'
        rcases hcm' with rfl | rfl | rfl | rfl | rfl
        · exact hzl
        · exact Heap.lt_size hTI
        · exact Heap.lt_size hTO
        · obtain ⟨o, e1, _⟩ := h1.obj; exact Heap.lt_size e1
        · obtain ⟨o, e1, _⟩ := h2.obj; exact Heap.lt_size e1
      rw [upd_ne (Nat.ne_of_lt hlt)]
      exact (hf c hcm).1
  done := by
    intro X hP hw hK hc i pins s σ H E I hf st hg
    subst hP hw hK
    obtain ⟨hz, hTI, ⟨x0, y0, hTO⟩, h1, h2⟩ := st
    obtain ⟨xs, ys, hqx, hqy, hend⟩ := hg
    have hh : X.A.in1.handled = none := I.ok.hd hc
    obtain ⟨d1⟩ := draw_at (A := X.A.in1) I hh hqx h1
    obtain ⟨d2⟩ := draw_at (A := X.A.in1) I hh hqy h2
    have S := ap.sep d1 d2
    exact wpAny_pyNext_zipD2_end S d1.D d2.D hz hTI hTO d1.st d2.st (by omega) (by omega) (by omega) fun h' tk hk => ⟨rfl, I.turnedL (t' := tk) (ch := [N + 4, N + 2, N + 3, N, N + 1]) (fun c o hb q =>
      hk c o (fun q' => hb (by simp [q'])) (fun q' => hb (by simp [q'])) (fun q' => hb (by simp [q'])) (fun q' => hb (by simp [q'])) q) hf⟩
  self := fun A i s Q E st h => wpAny_pyIter_zip st.1 h
/-- zip(a, b), made and walked -/
def iZipG (K : PySem.W.Frag) (ta : TA) : TI := fun σ H R => ta σ H fun vs H1 => ∃ p q xs ys, vs = [Src.v p, Src.v q] ∧ SrcIs K H1 p xs ∧ SrcIs K H1 q ys ∧ R (ItZ K p q) H1
theorem src_begins {X : Cx} {pins : List (Addr × Obj)} {σ : L2.St} {H : Hp} {s : Shared} {src : Src} {xs : List V} {u : Value} (I : Inv X pins σ H s) (hs : SrcIs X.K H src xs) (r : RelV src.v u) :
    ∃ o H1, Begins u o H1 ∧ H1 s.heap ∧ ∀ it h', (∀ b, src.v = .ref b → b < it) → h'.get? it = some o → SrcSt it 0 h' src := by
  cases src with
  | lst a =>
    cases r
    obtain ⟨its, _, pl, _⟩ := I.list hs
    exact ⟨_, _, begins_list a its.toArray, pl.isList, fun it h' hb e => ⟨⟨_, e, rfl, rfl⟩, hb a rfl⟩⟩
  | tup a =>
    cases r
    obtain ⟨its, _, pl, _⟩ := I.tuple hs
    exact ⟨_, _, begins_tuple a its.toArray, pl, fun it h' hb e => ⟨⟨_, e, rfl, rfl⟩, hb a rfl⟩⟩
  | txt z =>
    obtain ⟨t, rfl⟩ := r
    exact ⟨_, _, begins_text z t, trivial, fun it h' hb e => ⟨t, _, e, rfl, rfl⟩⟩
theorem pi_zipG {X : Cx} {e e2 : Expr} {ta : TA} {p pos tpos : Pos} {elts : List Expr} {kk : Nat} (hg : Gl X "zip") (hm : X.mg "zip" = none) (ha : PA X [e, e2] ta)
    (hs : starEach [e, e2] X.env = (false, eval e X.env) :: starEach [e2] X.env := by rfl) (hpl : (backTo pos (starEach [e2] X.env)).any (·.1) = false := by rfl) :
    PI X (.Tuple elts kk tpos) (.Call (.Name "zip" p) [e, e2] [] pos) (iZipG X.K ta) := by
  refine ⟨fun pins s σ H R I h => ?_⟩
  refine Call_ (ld_blt I hg hm PyProof.Rows.boot_zip (PyProof.Rows.callWith_type1 (thn (ha.run pos pins s σ H _ I h) fun us s1 ⟨vs, H1, I1, r1, q1⟩ => ?_) hs hpl))
  obtain ⟨a, b, xs, ys, ex, hqx, hqy, q⟩ := q1
  subst ex
  cases r1 with
  | cons r rr =>
    cases rr with
    | cons r' rr =>
      cases rr
      obtain ⟨o1, H1', B1, k1, g1⟩ := src_begins I1 hqx r
      obtain ⟨o2, H2', B2, k2, g2⟩ := src_begins I1 hqy r'
      have ap : Apart s1.heap.objs.size a b := ⟨Src.lt I1 hqx, Src.lt I1 hqy⟩
      refine zip_begins2 B1 B2 k1 k2 fun h' hz hTI hTO e1 e2 hsz hk => wpAny_pyIter_zip hz ?_
      have I2 : Inv X pins σ H1 { s1 with heap := h' } := I1.kept (t' := s1.toks) hk
      refine ⟨s1.heap.objs.size + 4, _, _, _, H1, rfl, I2, turn_zipG ap, ⟨hz, hTI, ⟨_, _, hTO⟩, g1 _ _ ap.p e1, g2 _ _ (fun b hb => Nat.lt_succ_of_lt (ap.q b hb)) e2⟩, fun c hcm => ?_, q⟩
      have hle : s1.heap.objs.size ≤ c := by
        simp only [List.mem_cons, List.not_mem_nil, or_false] at hcm
        rcases hcm with z | z | z | z | z
        · rw [z]; exact Nat.le_add_right _ _
        · rw [z]; exact Nat.le_add_right _ _
        · rw [z]; exact Nat.le_add_right _ _
        · rw [z]; exact Nat.le_refl _
        · rw [z]; exact Nat.le_add_right _ _
      exact I1.fpOk hle (I1.hok.fresh hle)
end MM

set_option linter.all false
set_option maxRecDepth 100000
namespace MM
open PySem L2

/-! ### targets -/
def RG (X : Cx) (cl : Str → Option Addr) (tg : Expr) (T : List Nat) (g : D → DL → Option DL) : Prop := ∀ (d : D) (v : V) (δ δ' : DL) (s : S) (σ : St) (Q : St → Hp → Prop), g d δ = some δ' → Ok (gx X cl) s → DV (gx X cl) s d v → SV (gx X cl) s δ σ →
  (∀ σ', SV (gx X cl) s δ' σ' → σ'.length = σ.length → (∀ i, i ∉ T → σ'[i]? = σ[i]?) → Q σ' s.H) → ∃ t, PG X tg t ∧ t v σ s.H Q
def RGs (X : Cx) (cl : Str → Option Addr) (tgs : List Expr) (T : List Nat) (g : List D → DL → Option DL) : Prop := ∀ (ds : List D) (vs : List V) (δ δ' : DL) (s : S) (σ : St) (Q : St → Hp → Prop), g ds δ = some δ' → Ok (gx X cl) s → DVs (gx X cl) s ds vs → SV (gx X cl) s δ σ →
  (∀ σ', SV (gx X cl) s δ' σ' → σ'.length = σ.length → (∀ i, i ∉ T → σ'[i]? = σ[i]?) → Q σ' s.H) → ∃ t, PGs X tgs t ∧ t vs σ s.H Q
theorem pg_any {X : Cx} {tg : Expr} : PG X tg (fun v σ H Q => ∃ t, PG X tg t ∧ t v σ H Q) := ⟨fun pins s σ H v u Q I r ⟨t, h, q⟩ => h.run pins s σ H v u Q I r q⟩
theorem pgs_any {X : Cx} {tg : List Expr} : PGs X tg (fun v σ H Q => ∃ t, PGs X tg t ∧ t v σ H Q) := ⟨fun pins s σ H v u Q I r ⟨t, h, q⟩ => h.run pins s σ H v u Q I r q⟩
def tgN (i : Nat) : D → DL → Option DL := fun d δ => some (δ.set i (some d))
def tgNil : List D → DL → Option DL := fun ds δ => match ds with | [] => some δ | _ => none
def tgCons (g : D → DL → Option DL) (r : List D → DL → Option DL) : List D → DL → Option DL := fun ds δ => match ds with | d :: t => (g d δ).bind fun δ1 => r t δ1 | _ => none
def tgT (g : List D → DL → Option DL) : D → DL → Option DL := fun d δ => match d with | .tup l => g l δ | _ => none
section
variable {X : Cx} {cl : Str → Option Addr} {a b e o c tg iter : Expr} {rest es tgs : List Expr} {p pos apos cpos : Pos} {ma mb mc mo : ME} {ta tb : MT} {ms : MA} {x name : Str} {id T : String} {f : Value} {Ts Us : List Nat}
theorem rg_name (i : Nat) {x : Str} (hN : X.N.Nodup) (hi : X.N[i]? = some x := by rfl) (hx : Loc X.env.scope x := by first | exact .inl rfl | exact .inr rfl) (hf : X.fn x = true ∨ X.env.scope.names.lookup x = some .local := by first | exact .inl rfl | exact .inr rfl) : RG X cl (.Name x pos) [i] (tgN i) := fun d v δ δ' s σ Q h ok dv sv q => by
  cases h
  refine ⟨_, pg_name hN hi hx hf, q _ (sv.set dv i) (by simp) fun j hj => ?_⟩
  rw [List.getElem?_set_ne]
  exact fun e => hj (by simp [e])
theorem rgs_nil : RGs X cl [] [] tgNil := fun ds vs δ δ' s σ Q h ok dv sv q => by
  cases dv with
  | nil =>
    cases h
    exact ⟨_, pgs_nil, rfl, q σ sv rfl fun _ _ => rfl⟩
  | cons _ _ => cases h
theorem rgs_cons {g : D → DL → Option DL} {r : List D → DL → Option DL} (h1 : RG X cl tg Ts g) (h2 : RGs X cl tgs Us r) (hs : (assignEach (tg :: tgs) X.env).map (·.2) = assign tg X.env :: (assignEach tgs X.env).map (·.2) := by rfl) : RGs X cl (tg :: tgs) (Ts ++ Us) (tgCons g r) := fun ds vs δ δ' s σ Q h ok dv sv q => by
  cases dv with
  | nil => cases h
  | cons d1 d2 =>
    obtain ⟨δ1, h3, h4⟩ := Option.bind_eq_some_iff.mp h
    refine ⟨_, pgs_cons pg_any pgs_any hs, _, _, rfl, h1 _ _ δ δ1 s σ _ h3 ok d1 sv fun σ1 sv1 hl1 hk1 => h2 _ _ δ1 δ' s σ1 _ h4 ok d2 sv1 fun σ2 sv2 hl2 hk2 => ?_⟩
    refine q σ2 sv2 (hl2.trans hl1) fun i hi => ?_
    rw [hk2 i fun z => hi (List.mem_append_right _ z), hk1 i fun z => hi (List.mem_append_left _ z)]
theorem rg_tup {g : List D → DL → Option DL} {k : Nat} (h : RGs X cl tgs Ts g) (hg : ∀ l δ δ', g l δ = some δ' → l.length = (assignEach tgs X.env).length) (hc : X.calm = true := by rfl) (hst : (assignEach tgs X.env).findIdx? (·.1) = none := by rfl) : RG X cl (.Tuple tgs k pos) Ts (tgT g) := fun d v δ δ' s σ Q h' ok dv sv q => by
  cases d with
  | tup l =>
    obtain ⟨a, vs, rfl, hr, hs⟩ := tup_view dv
    exact ⟨_, pg_tup hc pgs_any rfl hst, a, vs, rfl, hr, by rw [← hs.len]; exact hg _ _ _ h', h l vs δ δ' s σ Q h' ok hs sv q⟩
  | _ => cases h'
theorem gl_nil : ∀ l δ δ', tgNil l δ = some δ' → l.length = 0 := fun l δ δ' h => by
  cases l with
  | nil => rfl
  | cons _ _ => cases h
theorem gl_cons {g : D → DL → Option DL} {r : List D → DL → Option DL} {n : Nat} (h : ∀ l δ δ', r l δ = some δ' → l.length = n) : ∀ l δ δ', tgCons g r l δ = some δ' → l.length = n + 1 := fun l δ δ' h' => by
  cases l with
  | nil => cases h'
  | cons d t =>
    obtain ⟨δ1, h3, h4⟩ := Option.bind_eq_some_iff.mp h'
    rw [List.length_cons, h _ _ _ h4]

/-! ### what is walked -/
def Drive (G : Gx) (s : S) (ds : List D) (J : It) : Prop := ∀ s2, Gr s s2 → Ok G s2 → (∀ i, i < ds.length → J.go i s2.H) ∧ J.stop ds.length s2.H ∧ ∀ i d x H', ds[i]? = some d → J.yld i s2.H x H' → Le G s2 { s2 with H := H' } ∧ DV G { s2 with H := H' } d x
def RI (X : Cx) (cl : Str → Option Addr) (tg iter : Expr) (m : MA) : Prop := ∀ (δ : DL) (s : S) (σ : St) (ds : List D) (ah' : AH) (R : It → Hp → Prop), m δ s.ah = some (ds, ah') → Ok (gx X cl) s → SV (gx X cl) s δ σ →
  (∀ s' J, Le (gx X cl) s s' → s'.ah = ah' → Drive (gx X cl) s' ds J → R J s'.H) → ∃ wi, PI X tg iter wi ∧ wi σ s.H R
theorem pi_any {X : Cx} {tg iter : Expr} : PI X tg iter (fun σ H R => ∃ wi, PI X tg iter wi ∧ wi σ H R) := ⟨fun pins s σ H R I ⟨wi, h, q⟩ => h.run pins s σ H R I q⟩
def signs (z : Str) : List D := z.cps.toList.map fun c => .str ⟨#[c]⟩
def gIter : D → Option (List D)
  | .lst l => some l
  | .scr l => some l
  | .tup l => some l
  | .str z => some (signs z)
  | _ => none
theorem lst_src {G : Gx} {s : S} {v : V} {l : List D} (x : DV G s (.lst l) v ∨ DV G s (.scr l) v) : ∃ a vs, v = .ref a ∧ DVs G s l vs ∧ ∀ s2, Gr s s2 → SqL G.K s2.H a vs := by
  rcases x with x | x
  · cases x with
    | lst e n hs => exact ⟨_, _, rfl, hs, fun s2 g => .inl (.inl ((g.keep _ _ e n).of fun _ q => nomatch q))⟩
  · cases x with
    | scr e n hs => exact ⟨_, _, rfl, hs, fun s2 g => .inl (g.rd e n).1⟩
    | scrK e hs => exact ⟨_, _, rfl, hs, fun s2 g => .inr e⟩
theorem tup_src {G : Gx} {s : S} {v : V} {l : List D} (x : DV G s (.tup l) v) : ∃ a vs, v = .ref a ∧ DVs G s l vs ∧ ∀ s2, Gr s s2 → SqT G.K s2.H a vs := by
  cases x with
  | tup e n hs => exact ⟨_, _, rfl, hs, fun s2 g => .inl (g.rd e n).1⟩
  | tupK a b c d e hs => exact ⟨_, _, rfl, hs, fun s2 g => .inr ⟨_, _, _, a, b, c, d, e⟩⟩
theorem signs_dv {G : Gx} {s : S} : ∀ l : List Nat, DVs G s (l.map fun c => .str ⟨#[c]⟩) (l.map fun c => V.str ⟨#[c]⟩)
  | [] => .nil
  | _ :: r => .cons (.str _) (signs_dv r)
/-- a source that stands -/
theorem src_of {G : Gx} {s : S} {d : D} {v : V} {l : List D} (h : gIter d = some l) (x : DV G s d v) : ∃ (src : Src) (vs : List V), v = src.v ∧ DVs G s l vs ∧ ∀ s2, Gr s s2 → SrcIs G.K s2.H src vs := by
  cases d with
  | lst m =>
    cases h
    obtain ⟨a, vs, e, hs, hq⟩ := lst_src (.inl x)
    exact ⟨.lst a, vs, e, hs, hq⟩
  | scr m =>
    cases h
    obtain ⟨a, vs, e, hs, hq⟩ := lst_src (.inr x)
    exact ⟨.lst a, vs, e, hs, hq⟩
  | tup m =>
    cases h
    obtain ⟨a, vs, e, hs, hq⟩ := tup_src x
    exact ⟨.tup a, vs, e, hs, hq⟩
  | str z =>
    cases h
    cases x
    exact ⟨.txt z, _, rfl, signs_dv _, fun s2 g => rfl⟩
  | _ => cases h
def iSeq (m : ME) : MA := fun δ ah => (m δ ah).bind fun p => (gIter p.1).map fun l => (l, p.2)
theorem same_yield {G : Gx} {s s2 : S} {d : D} {x : V} {H' : Hp} (g : Gr s s2) (ok : Ok G s2) (e : H' = s2.H) (dv : DV G s d x) : Le G s2 { s2 with H := H' } ∧ DV G { s2 with H := H' } d x := by
  subst e
  exact ⟨Le.refl ok, dv.mono g⟩
theorem DVs.at {G : Gx} {s : S} {l : List D} {vs : List V} {i : Nat} {d : D} {x : V} (h : DVs G s l vs) (e : l[i]? = some d) (e' : vs[i]? = some x) : DV G s d x := by
  obtain ⟨v, h1, h2⟩ := h.get e
  obtain rfl : v = x := Option.some.inj (h1.symm.trans e')
  exact h2
theorem DVs.some_at {G : Gx} {s : S} {l : List D} {vs : List V} {i : Nat} (h : DVs G s l vs) (hi : i < l.length) : ∃ x, vs[i]? = some x := by
  rw [h.len] at hi
  exact ⟨_, List.getElem?_eq_getElem hi⟩
theorem drive_lst {G : Gx} {s : S} {l : List D} {a : Addr} {vs : List V} (hs : DVs G s l vs) (hq : ∀ s2, Gr s s2 → SqL G.K s2.H a vs) : Drive G s l (Itl G.K a) := fun s2 g ok => by
  refine ⟨fun i hi => ?_, ⟨vs, hq s2 g, by rw [hs.len]; exact Nat.le_refl _⟩, fun i d x H' hd hy => ?_⟩
  · obtain ⟨x, hx⟩ := hs.some_at hi
    exact ⟨vs, x, hq s2 g, hx⟩
  · exact same_yield g ok hy.1 (hs.at hd (hy.2 vs (hq s2 g)))
theorem drive_tup {G : Gx} {s : S} {l : List D} {a : Addr} {vs : List V} (hs : DVs G s l vs) (hq : ∀ s2, Gr s s2 → SqT G.K s2.H a vs) : Drive G s l (Itt G.K a) := fun s2 g ok => by
  refine ⟨fun i hi => ?_, ⟨vs, hq s2 g, by rw [hs.len]; exact Nat.le_refl _⟩, fun i d x H' hd hy => ?_⟩
  · obtain ⟨x, hx⟩ := hs.some_at hi
    exact ⟨vs, x, hq s2 g, hx⟩
  · exact same_yield g ok hy.1 (hs.at hd (hy.2 vs (hq s2 g)))
theorem ri_seq (h : RE X cl iter ma) : RI X cl tg iter (iSeq ma) := fun δ s σ ds ah' R h' ok sv q => by
  obtain ⟨⟨z, za⟩, h1, h2⟩ := Option.bind_eq_some_iff.mp h'
  obtain ⟨l, h3, h4⟩ := Option.map_eq_some_iff.mp h2
  obtain ⟨rfl, rfl⟩ := Prod.mk.inj h4
  cases z with
  | lst m =>
    cases h3
    refine ⟨_, pi_list peW, h δ s σ _ _ _ h1 ok sv fun s1 v l1 e1 d1 => ?_⟩
    obtain ⟨a, vs, e, hs, hq⟩ := lst_src (.inl d1)
    exact ⟨a, e, ⟨vs, hq s1 Gr.refl⟩, q s1 _ l1 e1 (drive_lst hs hq)⟩
  | scr m =>
    cases h3
    refine ⟨_, pi_list peW, h δ s σ _ _ _ h1 ok sv fun s1 v l1 e1 d1 => ?_⟩
    obtain ⟨a, vs, e, hs, hq⟩ := lst_src (.inr d1)
    exact ⟨a, e, ⟨vs, hq s1 Gr.refl⟩, q s1 _ l1 e1 (drive_lst hs hq)⟩
  | tup m =>
    cases h3
    refine ⟨_, pi_tup peW, h δ s σ _ _ _ h1 ok sv fun s1 v l1 e1 d1 => ?_⟩
    obtain ⟨a, vs, e, hs, hq⟩ := tup_src d1
    exact ⟨a, e, ⟨vs, hq s1 Gr.refl⟩, q s1 _ l1 e1 (drive_tup hs hq)⟩
  | str m =>
    cases h3
    refine ⟨_, pi_str peW, h δ s σ _ _ _ h1 ok sv fun s1 v l1 e1 d1 => ?_⟩
    cases d1
    refine ⟨m, rfl, q s1 _ l1 e1 fun s2 g ok2 => ⟨fun i hi => ?_, ?_, fun i d x H' hd hy => ?_⟩⟩
    · have hi : i < (signs m).length := hi
      simpa [signs, Its] using hi
    · show m.cps.size ≤ (signs m).length
      simp [signs]
    · obtain ⟨eH, c, hc, rfl⟩ := hy
      have hd : (signs m)[i]? = some d := hd
      have hc' : m.cps.toList[i]? = some c := by simpa using hc
      rw [signs, List.getElem?_map, hc'] at hd
      cases hd
      exact same_yield g ok2 eH (.str _)
  | _ => cases h3
/-! range -/
def gRange (lo hi : Int) : Option (List D) := if -1000000 ≤ lo ∧ lo ≤ 1000000 ∧ -1000000 ≤ hi ∧ hi ≤ lo + 10000 then some ((List.range (hi - lo).toNat).map fun i => .int (lo + (i : Nat))) else none
def iRng1M (m : ME) : MA := fun δ ah => (m δ ah).bind fun p => match p.1 with | .int n => (gRange 0 n).map fun l => (l, p.2) | _ => none
def iRng2M (a b : ME) : MA := fun δ ah => (a δ ah).bind fun p => (b δ p.2).bind fun q => match p.1, q.1 with | .int i, .int j => (gRange i j).map fun l => (l, q.2) | _, _ => none
theorem drive_range {G : Gx} {s : S} {lo : Int} {n : Nat} : Drive G s ((List.range n).map fun i => .int (lo + (i : Nat))) (Itr lo n) := fun s2 g ok => by
  refine ⟨fun i hi => by simpa [Itr] using hi, by show n ≤ _; simp, fun i d x H' hd hy => ?_⟩
  obtain ⟨eH, rfl⟩ := hy
  rw [List.getElem?_map] at hd
  have hi : i < n := by
    cases q : (List.range n)[i]? with
    | none => rw [q] at hd; cases hd
    | some k => have := (List.getElem?_eq_some_iff.mp q).1; simpa using this
  rw [List.getElem?_range hi] at hd
  cases hd
  exact same_yield g ok eH (.int _)
theorem ri_range1 (hm : X.mg "range" = none) (h : RE X cl e ma) (hg : Gl X "range" := by rfl) (hs : starEach [e] X.env = [(false, eval e X.env)] := by rfl) : RI X cl tg (.Call (.Name "range" p) [e] [] pos) (iRng1M ma) := fun δ s σ ds ah' R h' ok sv q => by
  obtain ⟨⟨z, za⟩, h1, h2⟩ := Option.bind_eq_some_iff.mp h'
  cases z with
  | int n =>
    obtain ⟨l, h3, h4⟩ := Option.map_eq_some_iff.mp h2
    obtain ⟨rfl, rfl⟩ := Prod.mk.inj h4
    unfold gRange at h3
    split at h3
    · rename_i hb
      cases h3
      refine ⟨_, pi_range1 hg hm (pa_cons peW pa_nil hs) hs, h δ s σ _ _ _ h1 ok sv fun s1 v l1 e1 d1 => ?_⟩
      cases d1
      refine ⟨n, rfl, by omega, by omega, q s1 _ l1 e1 ?_⟩
      have : (n - 0).toNat = n.toNat := by omega
      rw [this]
      exact drive_range
    · cases h3
  | _ => cases h2
theorem ri_range2 (hm : X.mg "range" = none) (h : RE X cl a ma) (hb : RE X cl b mb) (hg : Gl X "range" := by rfl) (hs : starEach [a, b] X.env = [(false, eval a X.env), (false, eval b X.env)] := by rfl) (hs2 : starEach [b] X.env = [(false, eval b X.env)] := by rfl) : RI X cl tg (.Call (.Name "range" p) [a, b] [] pos) (iRng2M ma mb) := fun δ s σ ds ah' R h' ok sv q => by
  obtain ⟨⟨z, za⟩, h1, h2⟩ := Option.bind_eq_some_iff.mp h'
  obtain ⟨⟨y, ya⟩, h5, h6⟩ := Option.bind_eq_some_iff.mp h2
  cases z with
  | int i =>
    cases y with
    | int j =>
      obtain ⟨l, h3, h4⟩ := Option.map_eq_some_iff.mp h6
      obtain ⟨rfl, rfl⟩ := Prod.mk.inj h4
      unfold gRange at h3
      split at h3
      · rename_i hbd
        cases h3
        have hs' : starEach [a, b] X.env = (false, eval a X.env) :: starEach [b] X.env := by rw [hs, hs2]
        refine ⟨_, pi_range2 hg hm (pa_cons peW (pa_cons peW pa_nil hs2) hs') hs hs2, h δ s σ _ _ _ h1 ok sv fun s1 v l1 e1 d1 => ?_⟩
        refine hb δ s1 σ _ _ _ (by rw [e1]; exact h5) l1.ok (sv.le l1) fun s2 w l2 e2 d2 => ?_
        cases d1
        cases d2
        exact ⟨i, j, rfl, by omega, q s2 _ (l1.trans l2) e2 drive_range⟩
      · cases h3
    | _ => cases h6
  | _ => cases h6
/-! zip -/
def zipD : List D → List D → List D
  | a :: r, b :: t => .tup [a, b] :: zipD r t
  | _, _ => []
theorem zipD_len : ∀ l m : List D, (zipD l m).length = min l.length m.length
  | [], _ => by simp [zipD]
  | _ :: _, [] => by simp [zipD]
  | _ :: r, _ :: t => by
    rw [zipD, List.length_cons, zipD_len r t, List.length_cons, List.length_cons]
    omega
theorem zipD_at : ∀ {l m : List D} {i : Nat} {d : D}, (zipD l m)[i]? = some d → ∃ x y, l[i]? = some x ∧ m[i]? = some y ∧ d = .tup [x, y]
  | [], _, _, _, h => by simp [zipD] at h
  | _ :: _, [], _, _, h => by simp [zipD] at h
  | x :: r, y :: t, 0, d, h => ⟨x, y, rfl, rfl, by simpa [zipD] using h.symm⟩
  | x :: r, y :: t, i + 1, d, h => by
    obtain ⟨u, w, h1, h2, h3⟩ := zipD_at (l := r) (m := t) (i := i) (by simpa [zipD] using h)
    exact ⟨u, w, by simpa using h1, by simpa using h2, h3⟩
theorem pair_yield {G : Gx} {s2 : S} {T : Addr} {x y : V} {d e : D} {H' : Hp} (ok : Ok G s2) (hT : s2.H T = none) (eH : H' = upd s2.H T (.tup [x, y])) (dx : DV G s2 d x) (dy : DV G s2 e y) : Le G s2 { s2 with H := H' } ∧ DV G { s2 with H := H' } (.tup [d, e]) (.ref T) := by
  subst eH
  have l := le_new ok hT (.tup [x, y])
  exact ⟨l, .tup (.inl upd_same) (fun a => (ok.nav hT) a) (.cons (dx.le l) (.cons (dy.le l) .nil))⟩
def iZipM (a b : ME) : MA := fun δ ah => (a δ ah).bind fun p => (b δ p.2).bind fun q => (gIter p.1).bind fun l => (gIter q.1).map fun m => (zipD l m, q.2)
theorem drive_zip {G : Gx} {s : S} {l m : List D} {u w : Src} {xs ys : List V} (h1 : DVs G s l xs) (h2 : DVs G s m ys) (q1 : ∀ s2, Gr s s2 → SrcIs G.K s2.H u xs) (q2 : ∀ s2, Gr s s2 → SrcIs G.K s2.H w ys) : Drive G s (zipD l m) (ItZ G.K u w) := fun s2 g ok => by
  refine ⟨fun i hi => ?_, ⟨xs, ys, q1 s2 g, q2 s2 g, by rw [zipD_len, h1.len, h2.len]⟩, fun i d x H' hd hy => ?_⟩
  · rw [zipD_len] at hi
    obtain ⟨x, hx⟩ := h1.some_at (i := i) (by omega)
    obtain ⟨y, hy⟩ := h2.some_at (i := i) (by omega)
    exact ⟨xs, ys, x, y, q1 s2 g, q2 s2 g, hx, hy⟩
  · obtain ⟨T, x', y', rfl, hT, eH, f1, f2⟩ := hy
    obtain ⟨d1, d2, e1, e2, rfl⟩ := zipD_at hd
    exact pair_yield ok hT eH ((h1.at e1 (f1 xs (q1 s2 g))).mono g) ((h2.at e2 (f2 ys (q2 s2 g))).mono g)
theorem ri_zip {elts : List Expr} {kk : Nat} {tpos : Pos} (hm : X.mg "zip" = none) (h : RE X cl a ma) (hb : RE X cl b mb) (hg : Gl X "zip" := by rfl) (hs : starEach [a, b] X.env = (false, eval a X.env) :: starEach [b] X.env := by rfl) (hs2 : starEach [b] X.env = (false, eval b X.env) :: starEach [] X.env := by rfl)
    (hpl : (backTo pos (starEach [b] X.env)).any (·.1) = false := by rfl) : RI X cl (.Tuple elts kk tpos) (.Call (.Name "zip" p) [a, b] [] pos) (iZipM ma mb) := fun δ s σ ds ah' R h' ok sv q => by
  obtain ⟨⟨z, za⟩, h1, h2⟩ := Option.bind_eq_some_iff.mp h'
  obtain ⟨⟨y, ya⟩, h5, h6⟩ := Option.bind_eq_some_iff.mp h2
  obtain ⟨l, h7, h8⟩ := Option.bind_eq_some_iff.mp h6
  obtain ⟨m, h9, h10⟩ := Option.map_eq_some_iff.mp h8
  obtain ⟨rfl, rfl⟩ := Prod.mk.inj h10
  refine ⟨_, pi_zipG hg hm (pa_cons peW (pa_cons peW pa_nil hs2) hs) hs hpl, h δ s σ _ _ _ h1 ok sv fun s1 v l1 e1 d1 => ?_⟩
  refine hb δ s1 σ _ _ _ (by rw [e1]; exact h5) l1.ok (sv.le l1) fun s2 w l2 e2 d2 => ?_
  obtain ⟨u1, xs, rfl, k1, q1⟩ := src_of h7 (d1.le l2)
  obtain ⟨u2, ys, rfl, k2, q2⟩ := src_of h9 d2
  exact ⟨u1, u2, xs, ys, rfl, q1 s2 Gr.refl, q2 s2 Gr.refl, q s2 _ (l1.trans l2) e2 (drive_zip k1 k2 q1 q2)⟩
/-! enumerate of a list -/
def enumD : Nat → List D → List D
  | _, [] => []
  | n, d :: r => .tup [.int (n : Nat), d] :: enumD (n + 1) r
theorem enumD_len : ∀ (l : List D) (n : Nat), (enumD n l).length = l.length
  | [], _ => rfl
  | _ :: r, n => by rw [enumD, List.length_cons, enumD_len r, List.length_cons]
theorem enumD_at : ∀ {l : List D} {n i : Nat} {d : D}, (enumD n l)[i]? = some d → ∃ x, l[i]? = some x ∧ d = .tup [.int ((n + i : Nat) : Int), x]
  | [], _, _, _, h => by simp [enumD] at h
  | x :: r, n, 0, d, h => ⟨x, rfl, by simpa [enumD] using h.symm⟩
  | x :: r, n, i + 1, d, h => by
    obtain ⟨u, h1, h2⟩ := enumD_at (l := r) (n := n + 1) (i := i) (by simpa [enumD] using h)
    exact ⟨u, by simpa using h1, by rw [h2, show n + 1 + i = n + (i + 1) by omega]⟩
def iEnumM (a : ME) : MA := fun δ ah => (a δ ah).bind fun p => match p.1 with | .lst l => some (enumD 0 l, p.2) | _ => none
theorem ri_enum {elts : List Expr} {kk : Nat} {tpos : Pos} (hm : X.mg "enumerate" = none) (h : RE X cl a ma) (hg : Gl X "enumerate" := by rfl) (hs : starEach [a] X.env = [(false, eval a X.env)] := by rfl) : RI X cl (.Tuple elts kk tpos) (.Call (.Name "enumerate" p) [a] [] pos) (iEnumM ma) := fun δ s σ ds ah' R h' ok sv q => by
  obtain ⟨⟨z, za⟩, h1, h2⟩ := Option.bind_eq_some_iff.mp h'
  cases z with
  | lst l =>
    obtain ⟨rfl, rfl⟩ := Prod.mk.inj (Option.some.inj h2)
    refine ⟨_, pi_enum hg hm (pa_cons peW pa_nil hs) hs, h δ s σ _ _ _ h1 ok sv fun s1 v l1 e1 d1 => ?_⟩
    obtain ⟨u, vs, rfl, hs', hq⟩ := lst_src (.inl d1)
    refine ⟨u, vs, rfl, hq s1 Gr.refl, q s1 _ l1 e1 fun s2 g ok2 => ⟨fun i hi => ?_, ⟨vs, hq s2 g, by rw [enumD_len, hs'.len]; exact Nat.le_refl _⟩, fun i d x H' hd hy => ?_⟩⟩
    · rw [enumD_len] at hi
      obtain ⟨x, hx⟩ := hs'.some_at hi
      exact ⟨vs, x, hq s2 g, hx⟩
    · obtain ⟨T, x', rfl, hT, eH, f1⟩ := hy
      obtain ⟨d2, e2, rfl⟩ := enumD_at hd
      rw [Nat.zero_add]
      exact pair_yield ok2 hT eH (.int _) ((hs'.at e2 (f1 vs (hq s2 g))).mono g)
  | _ => cases h2
/-! a dict that is data -/
theorem pe_lockV {e : Expr} (h : PE X e (WE X e)) : PE X e (fun σ H Q => WE X e σ H fun x H1 => ∃ d kvs, x = .ref d ∧ ((∃ o, H1 d = some (.frz o (.dK kvs)) ∧ Q x H1) ∨ (H1 d = some (.dK kvs) ∧ ∀ o, Q x (upd H1 d (.frz o (.dK kvs)))))) := by
  refine ⟨fun pins s σ H Q I hw => thn (h.run pins s σ H _ I hw) fun u s1 ⟨x, H1, I1, rx, d, kvs, ex, q⟩ => ?_⟩
  rcases q with ⟨o, _, q⟩ | ⟨hd, q⟩
  · exact ⟨x, H1, I1, rx, q⟩
  · obtain ⟨od, I2⟩ := I1.lock hd trivial
    exact ⟨x, _, I2, rx, q od⟩
def iKeysD (m : ME) : MA := fun δ ah => (m δ ah).bind fun p => match p.1 with | .dic l => some (l.map fun kv => keyD kv.1, p.2) | _ => none
theorem ri_keys (h : RE X cl iter ma) : RI X cl tg iter (iKeysD ma) := fun δ s σ ds ah' R h' ok sv q => by
  obtain ⟨⟨z, za⟩, h1, h2⟩ := Option.bind_eq_some_iff.mp h'
  cases z with
  | dic l =>
    obtain ⟨rfl, rfl⟩ := Prod.mk.inj (Option.some.inj h2)
    refine ⟨_, pi_keys (pe_lockV peW), h δ s σ _ _ _ h1 ok sv fun s1 v l1 e1 d1 => ?_⟩
    cases d1 with
    | @dic _ a kvs e n hk hs =>
      have drv : ∀ s2 o, s2.H a = some (.frz o (.dK kvs)) → ¬ av s2 a → Drive (gx X cl) s2 (l.map fun kv => keyD kv.1) (Itk a o kvs) := fun s2 o e2 n2 s3 g ok3 => by
        have e3 : s3.H a = some (.frz o (.dK kvs)) := (g.keep _ _ e2 n2).of fun _ q => nomatch q
        have hl : kvs.length = l.length := map_len hk
        refine ⟨fun i hi => ⟨e3, by rw [hl]; simpa using hi⟩, ⟨e3, by rw [hl]; simp⟩, fun i d x H' hd hy => ?_⟩
        obtain ⟨eH, k, v, hkv, rfl⟩ := hy
        have e5 : (kvs.map (·.1))[i]? = some k := by rw [List.getElem?_map, hkv]; rfl
        rw [hk, List.getElem?_map] at e5
        rw [List.getElem?_map] at hd
        cases q : l[i]? with
        | none => rw [q] at hd; cases hd
        | some kv =>
          rw [q] at hd e5
          cases hd
          obtain rfl : kv.1 = k := Option.some.inj e5
          obtain ⟨kk, kd⟩ := kv
          refine same_yield g ok3 eH ?_
          cases kk with
          | inl i => exact .int i
          | inr z => exact .str z
      rcases e with e | ⟨o, e⟩
      · refine ⟨a, kvs, rfl, .inr ⟨e, fun o => ?_⟩⟩
        have l2 := le_lock l1.ok e n o
        refine ⟨a, o, rfl, .inl ⟨kvs, upd_same, ?_⟩⟩
        exact q (s1.up a _) _ (l1.trans l2) e1 (drv _ o upd_same (by
          rintro (⟨i, v, k1, k2, k3⟩ | k)
          · exact n (.inl ⟨i, v, k1, k2, k3⟩)
          · exact n (.inr k)))
      · exact ⟨a, kvs, rfl, .inl ⟨o, e, a, o, rfl, .inl ⟨kvs, e, q s1 _ l1 e1 (drv s1 o e n)⟩⟩⟩
  | _ => cases h2

/-! ### list comprehensions -/
def wipeD (δ : DL) : List Nat → DL
  | [] => δ
  | v :: vs => (wipeD δ vs).set v none
theorem wipeD_length (δ : DL) : ∀ vs, (wipeD δ vs).length = δ.length
  | [] => rfl
  | v :: vs => by rw [wipeD, List.length_set, wipeD_length δ vs]
theorem wipe_get (σ : St) (vs : List Nat) (i : Nat) : (wipe σ vs)[i]? = if i ∈ vs then (σ[i]?).map (fun _ => none) else σ[i]? := by
  induction vs with
  | nil => simp [wipe]
  | cons v vs ih =>
    rw [wipe]
    by_cases e : v = i
    · subst e
      rw [List.getElem?_set]
      have hl := wipe_length σ vs
      simp only [hl, if_true, List.mem_cons, true_or]
      by_cases h : v < σ.length
      · simp [h]
      · simp [h]
    · rw [List.getElem?_set_ne e, ih]
      have : (i ∈ v :: vs) ↔ i ∈ vs := by simp [Ne.symm e]
      simp only [this]
theorem wipeD_get (δ : DL) (vs : List Nat) (i : Nat) : (wipeD δ vs)[i]? = if i ∈ vs then (δ[i]?).map (fun _ => none) else δ[i]? := by
  induction vs with
  | nil => simp [wipeD]
  | cons v vs ih =>
    rw [wipeD]
    by_cases e : v = i
    · subst e
      rw [List.getElem?_set]
      have hl := wipeD_length δ vs
      simp only [hl, if_true, List.mem_cons, true_or]
      by_cases h : v < δ.length
      · simp [h]
      · simp [h]
    · rw [List.getElem?_set_ne e, ih]
      have : (i ∈ v :: vs) ↔ i ∈ vs := by simp [Ne.symm e]
      simp only [this]
theorem SV.wipe {G : Gx} {s : S} {δ : DL} {σ : St} (h : SV G s δ σ) (vs : List Nat) : SV G s (wipeD δ vs) (L2.wipe σ vs) := by
  refine ⟨by rw [wipeD_length, wipe_length]; exact h.1, fun i d e => ?_⟩
  rw [wipeD_get] at e
  rw [wipe_get]
  split at e
  · cases q : δ[i]? <;> rw [q] at e <;> cases e
  · rename_i hi
    rw [if_neg hi]
    exact h.2 i d e
theorem wipe_same {σ τ : St} {vs Ts : List Nat} (hl : τ.length = σ.length) (h : ∀ i, i ∉ Ts → τ[i]? = σ[i]?) (hs : ∀ i ∈ Ts, i ∈ vs) : L2.wipe τ vs = L2.wipe σ vs := by
  apply List.ext_getElem?
  intro i
  rw [wipe_get, wipe_get]
  split
  · rename_i hi
    by_cases q : i < σ.length
    · rw [List.getElem?_eq_getElem (hl ▸ q), List.getElem?_eq_getElem q]
      rfl
    · rw [List.getElem?_eq_none (by omega), List.getElem?_eq_none (by omega)]
  · rename_i hi
    exact h i fun z => hi (hs i z)
theorem wipe_wipe (σ : St) (vs : List Nat) : L2.wipe (L2.wipe σ vs) vs = L2.wipe σ vs := by
  apply List.ext_getElem?
  intro i
  rw [wipe_get, wipe_get]
  split
  · cases σ[i]? <;> rfl
  · rfl
abbrev MAH := AH → Option (List D × AH)
/-- a comprehension's turns -/
def compGo (g : D → DL → Option DL) (t : MT) (e : ME) (δ : DL) : List D → MAH
  | [] => fun ah => some ([], ah)
  | d :: r => fun ah => (g d δ).bind fun δ1 => (t δ1 ah).bind fun p => if p.1 = true then (e δ1 p.2).bind fun x => (compGo g t e δ r x.2).map fun y => (x.1 :: y.1, y.2) else compGo g t e δ r p.2
def tYesM : MT := fun _ ah => some (true, ah)
def fComp (mi : MA) (g : D → DL → Option DL) (t : MT) (e : ME) (vs : List Nat) : MA := fun δ ah => (mi δ ah).bind fun p => if p.1.length ≤ 100000 then compGo g t e (wipeD δ vs) p.1 p.2 else none
end
end MM

set_option linter.all false
set_option maxRecDepth 100000
namespace MM
open PySem L2

/-! ### a list in the making stands aside -/
structure Lx (s s' : S) : Prop where
  pre : ∀ (n : Nat) a, s.ι[n]? = some a → s'.ι[n]? = some a
  keep : ∀ a o, s.H a = some o → ¬ live s a → Kept o (s'.H a)
  newl : ∀ a, live s' a → live s a ∨ s.H a = none
  some : ∀ a, s.H a ≠ none → s'.H a ≠ none
theorem Le.lx {G : Gx} {s s' : S} (h : Le G s s') : Lx s s' := ⟨h.pre, h.keep, h.newl, h.some⟩
theorem Lx.trans {s s1 s2 : S} (h1 : Lx s s1) (h2 : Lx s1 s2) : Lx s s2 where
  pre := fun n a h => h2.pre n a (h1.pre n a h)
  keep := fun a o h nl => (h1.keep a o h nl).trans fun u e => h2.keep a u e fun l => (h1.newl a l).elim nl fun q => by rw [h] at q; cases q
  newl := fun a l => by
    rcases h2.newl a l with l | q
    · exact h1.newl a l
    · by_cases h : s.H a = none
      · exact .inr h
      · exact absurd q (h1.some a h)
  some := fun a h => h2.some a (h1.some a h)
/-- s2 is behind s1, with the list at p aside, of the items l -/
structure Side (G : Gx) (s1 s2 : S) (p : Addr) (l : List D) : Prop where
  b : s2.B = fun a => s1.B a ∨ a = p
  lx : Lx s1 s2
  ok : Ok G s2
  at_ : ∃ vs, s2.H p = some (.lst vs) ∧ DVs G s2 l vs
theorem Side.nl {G : Gx} {s1 s2 : S} {p : Addr} {l : List D} (h : Side G s1 s2 p l) : ¬ live s2 p := fun ⟨n, o, e, _, _⟩ => h.ok.dj n p e (by rw [h.b]; exact .inr rfl)
theorem Side.gr {G : Gx} {s1 s2 : S} {p : Addr} {l : List D} (h : Side G s1 s2 p l) (hp : s1.H p = none) : Gr s1 s2 := ⟨h.lx.pre, fun a o e n => h.lx.keep a o e fun q => n (.inl q), fun a l => by
  rcases l with l | l
  · rcases h.lx.newl a l with l | q
    · exact .inl (.inl l)
    · exact .inr q
  · rw [h.b] at l
    rcases l with l | rfl
    · exact .inl (.inr l)
    · exact .inr hp⟩
/-- begun -/
theorem side_start {G : Gx} {s1 : S} {p : Addr} (ok : Ok G s1) (hp : s1.H p = none) : Side G s1 ⟨fun a => s1.B a ∨ a = p, s1.ι, s1.ah, upd s1.H p (.lst [])⟩ p [] := by
  have k : ∀ a u, s1.H a = some u → (upd s1.H p (.lst [])) a = some u := fun a u e => by
    rw [upd_ne (ne_of_none e hp)]
    exact e
  have k' : ∀ a, s1.H a ≠ none → (upd s1.H p (.lst [])) a ≠ none := fun a q => by
    obtain ⟨u, hu⟩ := Option.ne_none_iff_exists'.mp q
    rw [k a u hu]
    exact fun z => by cases z
  have g : Gr s1 ⟨fun a => s1.B a ∨ a = p, s1.ι, s1.ah, upd s1.H p (.lst [])⟩ := ⟨fun _ _ h => h, fun a u e _ => .inl (k a u e), fun a l => by
    rcases l with l | l | rfl
    · exact .inl (.inl l)
    · exact .inl (.inr l)
    · exact .inr hp⟩
  refine ⟨rfl, ⟨fun _ _ h => h, fun a u e _ => .inl (k a u e), fun a l => .inl l, k'⟩, ⟨ok.len, ok.inj, fun n a e => k' a (ok.ne n a e), fun a h => ?_, fun n a e h => ?_, fun n a o e1 e2 => (ok.obj n a o e1 e2).mono g fun u => k a u⟩, [], upd_same, .nil⟩
  · rcases h with h | rfl
    · exact k' a (ok.nb a h)
    · show upd s1.H a (.lst []) a ≠ none
      rw [upd_same]
      exact fun z => by cases z
  · rcases h with h | rfl
    · exact ok.dj n a e h
    · exact ok.ne n a e hp
theorem Side.le {G : Gx} {s1 s2 s3 : S} {p : Addr} {l : List D} (h : Side G s1 s2 p l) (h2 : Le G s2 s3) : Side G s1 s3 p l := by
  refine ⟨by rw [h2.b, h.b], h.lx.trans h2.lx, h2.ok, ?_⟩
  obtain ⟨vs, e, hs⟩ := h.at_
  exact ⟨vs, (h2.keep p _ e h.nl).of (fun _ q => nomatch q), hs.le h2⟩
/-- one item more -/
theorem Side.app {G : Gx} {s1 s2 : S} {p : Addr} {l : List D} (h : Side G s1 s2 p l) (hp : s1.H p = none) {d : D} {v : V} (dv : DV G s2 d v) {vs : List V} (e : s2.H p = some (.lst vs)) (hs : DVs G s2 l vs) : Side G s1 (s2.up p (.lst (vs ++ [v]))) p (l ++ [d]) := by
  have k : ∀ a u, a ≠ p → s2.H a = some u → (s2.up p (.lst (vs ++ [v]))).H a = some u := fun a u n q => by
    show upd s2.H p _ a = some u
    rw [upd_ne n]
    exact q
  have k' : ∀ a, s2.H a ≠ none → (s2.up p (.lst (vs ++ [v]))).H a ≠ none := fun a q => by
    by_cases n : a = p
    · show upd s2.H p _ a ≠ none
      rw [n, upd_same]
      exact fun z => by cases z
    · obtain ⟨u, hu⟩ := Option.ne_none_iff_exists'.mp q
      rw [k a u n hu]
      exact fun z => by cases z
  have pB : s2.B p := by rw [h.b]; exact .inr rfl
  have g : Gr s2 (s2.up p (.lst (vs ++ [v]))) := ⟨fun _ _ h => h, fun a u q n => .inl (k a u (fun z => n (.inr (z ▸ pB))) q), fun a l => .inl l⟩
  refine ⟨h.b, ⟨h.lx.pre, fun a o q nl => ?_, h.lx.newl, fun a q => k' a (h.lx.some a q)⟩, ⟨h.ok.len, h.ok.inj, fun n a q => k' a (h.ok.ne n a q), fun a q => k' a (h.ok.nb a q), h.ok.dj, fun n a o e1 e2 => (h.ok.obj n a o e1 e2).mono g fun u => k a u fun z => h.ok.dj n a e1 (z ▸ pB)⟩, vs ++ [v], upd_same, (hs.mono g).append (.cons (dv.mono g) .nil)⟩
  have n : a ≠ p := ne_of_none q hp
  have := h.lx.keep a o q nl
  show Kept o (upd s2.H p _ a)
  rw [upd_ne n]
  exact this
/-- done: the state without the list -/
theorem Side.done {G : Gx} {s1 s2 : S} {p : Addr} {l : List D} (h : Side G s1 s2 p l) (ok1 : Ok G s1) (hp : s1.H p = none) : ∃ s3 vs, Le G s1 s3 ∧ s3.ah = s2.ah ∧ s3.H p = none ∧ DVs G s3 l vs ∧ s2.H = upd s3.H p (.lst vs) := by
  obtain ⟨vs, e, hs⟩ := h.at_
  have k : ∀ a u, a ≠ p → s2.H a = some u → (fun b => if b = p then none else s2.H b : Hp) a = some u := fun a u n q => by
    show (if a = p then none else s2.H a) = some u
    rw [if_neg n]
    exact q
  have k' : ∀ a, a ≠ p → s2.H a ≠ none → (fun b => if b = p then none else s2.H b : Hp) a ≠ none := fun a n q => by
    show (if a = p then none else s2.H a) ≠ none
    rw [if_neg n]
    exact q
  have pB : s2.B p := by rw [h.b]; exact .inr rfl
  have lv : ∀ a, live ⟨s1.B, s2.ι, s2.ah, fun b => if b = p then none else s2.H b⟩ a → live s2 a := fun a q => q
  have g : Gr s2 ⟨s1.B, s2.ι, s2.ah, fun b => if b = p then none else s2.H b⟩ := ⟨fun _ _ h => h, fun a u q n => .inl (k a u (fun z => n (.inr (z ▸ pB))) q), fun a l => by
    rcases l with l | l
    · exact .inl (.inl l)
    · refine .inl (.inr ?_)
      rw [h.b]
      exact .inl l⟩
  refine ⟨⟨s1.B, s2.ι, s2.ah, fun b => if b = p then none else s2.H b⟩, vs, ⟨rfl, h.lx.pre, fun a o q nl => ?_, h.lx.newl, fun a q => ?_, ⟨h.ok.len, h.ok.inj, fun n a q => k' a (fun z => h.ok.dj n a q (z ▸ pB)) (h.ok.ne n a q), fun a q => ?_, fun n a q b => h.ok.dj n a q (by rw [h.b]; exact .inl b), fun n a o e1 e2 => (h.ok.obj n a o e1 e2).mono g fun u => k a u fun z => h.ok.dj n a e1 (z ▸ pB)⟩⟩, rfl, if_pos rfl, hs.mono g, ?_⟩
  · have n : a ≠ p := ne_of_none q hp
    show Kept o (if a = p then none else s2.H a)
    rw [if_neg n]
    exact h.lx.keep a o q nl
  · have n : a ≠ p := fun z => q (z ▸ hp)
    exact k' a n (h.lx.some a q)
  · have n : a ≠ p := fun z => ok1.nb a q (z ▸ hp)
    exact k' a n (h.lx.some a (ok1.nb a q))
  · funext b
    unfold upd
    by_cases q : b = p
    · rw [if_pos q, q, e]
    · rw [if_neg q]
      show s2.H b = if b = p then none else s2.H b
      rw [if_neg q]

/-! ### the comprehension -/
def RTs (X : Cx) (cl : Str → Option Addr) (ifs : List Expr) (m : MT) : Prop := ∀ (δ : DL) (s : S) (σ : St) (b : Bool) (ah' : AH) (Q : Bool → Hp → Prop), m δ s.ah = some (b, ah') → Ok (gx X cl) s → SV (gx X cl) s δ σ →
  (∀ s', Le (gx X cl) s s' → s'.ah = ah' → Q b s'.H) → ∃ t, PTs X ifs t ∧ t σ s.H Q
theorem pts_any {X : Cx} {ifs : List Expr} : PTs X ifs (fun σ H Q => ∃ t, PTs X ifs t ∧ t σ H Q) := ⟨fun pins s σ H Q I ⟨t, h, q⟩ => h.run pins s σ H Q I q⟩
theorem rts_nil {X : Cx} {cl : Str → Option Addr} : RTs X cl [] tYesM := fun δ s σ b ah' Q h ok sv q => by
  obtain ⟨rfl, rfl⟩ := Prod.mk.inj (Option.some.inj h)
  exact ⟨_, pts_nil, q s (Le.refl ok) rfl⟩
theorem rts_one {X : Cx} {cl : Str → Option Addr} {c : Expr} {m : MT} (hc : RT X cl c m) : RTs X cl [c] m := fun δ s σ b ah' Q h ok sv q => ⟨_, pts_one ptW, hc δ s σ b ah' Q h ok sv q⟩
section
variable {X : Cx} {cl : Str → Option Addr} {elt tg iter : Expr} {ifs : List Expr} {scope : Scope} {own : List (Str × Nat)} {pos : Pos} {mi : MA} {g : D → DL → Option DL} {t : MT} {e : ME} {Ts : List Nat}
abbrev BCx (X : Cx) (scope : Scope) (s : Shared) (H : Hp) (C : Addr) (cl' : List (Str × Addr)) (fp : List Addr) : Cx := X.blk s H scope (compEnvC scope cl' C X.env) fp
def uG (X : Cx) (scope : Scope) (tg : Expr) : TG := fun v σ H Q => ∀ s H0 C cl' fp, ∃ t, PG (BCx X scope s H0 C cl' fp) tg t ∧ t v σ H Q
def uT (X : Cx) (scope : Scope) (ifs : List Expr) : TT := fun σ H Q => ∀ s H0 C cl' fp, ∃ t, PTs (BCx X scope s H0 C cl' fp) ifs t ∧ t σ H Q
def uE (X : Cx) (scope : Scope) (e : Expr) : TE := fun σ H Q => ∀ s H0 C cl' fp, WE (BCx X scope s H0 C cl' fp) e σ H Q
theorem pg_u (s : Shared) (H0 : Hp) (C : Addr) (cl' : List (Str × Addr)) (fp : List Addr) : PG (BCx X scope s H0 C cl' fp) tg (uG X scope tg) := ⟨fun pins st σ H v u Q I r h => by
  obtain ⟨t, h1, h2⟩ := h s H0 C cl' fp
  exact h1.run pins st σ H v u Q I r h2⟩
theorem pts_u (s : Shared) (H0 : Hp) (C : Addr) (cl' : List (Str × Addr)) (fp : List Addr) : PTs (BCx X scope s H0 C cl' fp) ifs (uT X scope ifs) := ⟨fun pins st σ H Q I h => by
  obtain ⟨t, h1, h2⟩ := h s H0 C cl' fp
  exact h1.run pins st σ H Q I h2⟩
theorem pe_u (s : Shared) (H0 : Hp) (C : Addr) (cl' : List (Str × Addr)) (fp : List Addr) : PE (BCx X scope s H0 C cl' fp) elt (uE X scope elt) := ⟨fun pins st σ H Q I h => h s H0 C cl' fp pins st I⟩
abbrev wI (X : Cx) (tg iter : Expr) : TI := fun σ H R => ∃ wi, PI X tg iter wi ∧ wi σ H R
theorem lc_read {vs : List Nat} (hi : RI X cl tg iter mi) (hg : ∀ s H C cl' fp, RG (BCx X scope s H C cl' fp) cl tg Ts g) (ht : ∀ s H C cl' fp, RTs (BCx X scope s H C cl' fp) cl ifs t) (he : ∀ s H C cl' fp, RE (BCx X scope s H C cl' fp) cl elt e) (hsub : ∀ i ∈ Ts, i ∈ vs)
    {δ : DL} {s : S} {σ : St} {ds : List D} {ah' : AH} {Q : VK} (h : fComp mi g t e vs δ s.ah = some (ds, ah')) (ok : Ok (gx X cl) s) (sv : SV (gx X cl) s δ σ) (q : ∀ s1 p vs, Le (gx X cl) s s1 → s1.ah = ah' → s1.H p = none → DVs (gx X cl) s1 ds vs → Q (.ref p) (upd s1.H p (.lst vs))) :
    tLc (wI X tg iter) (uG X scope tg) (uT X scope ifs) (uE X scope elt) vs σ s.H Q := by
  obtain ⟨⟨items, ah1⟩, h1, h2⟩ := Option.bind_eq_some_iff.mp h
  split at h2
  · rename_i hlen
    have hlen : items.length ≤ 100000 := hlen
    refine hi δ s σ items ah1 _ h1 ok sv fun s1 J l1 e1 drv Dl hD => ?_
    refine ⟨fun i m H => ∃ s2 acc rest, s2.H = H ∧ i + m = items.length ∧ Side (gx X cl) s1 s2 Dl acc ∧ acc.length ≤ i ∧ compGo g t e (wipeD δ vs) (items.drop i) s2.ah = some (rest, ah') ∧ ds = acc ++ rest,
      ⟨items.length, _, [], ds, rfl, Nat.zero_add _, side_start l1.ok hD, Nat.le_refl _, by rw [List.drop_zero]; show compGo g t e (wipeD δ vs) items s1.ah = _; rw [e1]; exact h2, rfl⟩, fun i m H hW => ?_⟩
    obtain ⟨s2, acc, rest, rfl, him, sd, hac, hgo, hds⟩ := hW
    obtain ⟨d1, d2, d3⟩ := drv s2 (sd.gr hD) sd.ok
    by_cases hi : i < items.length
    · refine .inr ⟨d1 i hi, fun H' => ∃ s2 acc rest, s2.H = H' ∧ (i + 1) + (m - 1) = items.length ∧ Side (gx X cl) s1 s2 Dl acc ∧ acc.length ≤ i + 1 ∧ compGo g t e (wipeD δ vs) (items.drop (i + 1)) s2.ah = some (rest, ah') ∧ ds = acc ++ rest, fun H' hN => ⟨m - 1, by omega, hN⟩, fun x H' hy => ?_⟩
      obtain ⟨l3, dv3⟩ := d3 i items[i] x H' (List.getElem?_eq_getElem hi) hy
      rw [List.drop_eq_getElem_cons hi] at hgo
      obtain ⟨δ1, k1, k2⟩ := Option.bind_eq_some_iff.mp hgo
      obtain ⟨⟨b, ahb⟩, k3, k4⟩ := Option.bind_eq_some_iff.mp k2
      have sd3 := sd.le l3
      have g3 := sd3.gr hD
      have sv3 : SV (gx X cl) { s2 with H := H' } (wipeD δ vs) (L2.wipe σ vs) := ((sv.le l1).mono g3).wipe vs
      intro sa Ha Ca cla fpa
      refine hg sa Ha Ca cla fpa items[i] x (wipeD δ vs) δ1 { s2 with H := H' } (L2.wipe σ vs) _ k1 sd3.ok dv3 sv3 fun σ2 sv4 hl4 hk4 => ⟨by rw [wipe_same hl4 hk4 hsub, wipe_wipe], ?_⟩
      intro sb Hb Cb clb fpb
      refine ht sb Hb Cb clb fpb δ1 { s2 with H := H' } σ2 b ahb _ k3 sd3.ok sv4 fun s4 l4 e4 => ?_
      have sd4 := sd3.le l4
      cases b with
      | true =>
        rw [if_pos rfl]
        rw [if_pos rfl] at k4
        obtain ⟨⟨y, ahy⟩, k5, k6⟩ := Option.bind_eq_some_iff.mp k4
        obtain ⟨⟨r2, ahr⟩, k7, k8⟩ := Option.map_eq_some_iff.mp k6
        obtain ⟨rfl, rfl⟩ := Prod.mk.inj k8
        intro sc Hc Cc clc fpc
        refine he sc Hc Cc clc fpc δ1 s4 σ2 y ahy _ (by rw [e4]; exact k5) sd4.ok (sv4.le l4) fun s5 v l5 e5 dv5 => ?_
        have sd5 := sd4.le l5
        obtain ⟨vs5, hv5, hs5⟩ := sd5.at_
        refine ⟨vs5, hv5, ?_, s5.up Dl (.lst (vs5 ++ [v])), acc ++ [y], r2, rfl, by omega, sd5.app hD dv5 hv5 hs5, by rw [List.length_append, List.length_singleton]; omega, ?_, by rw [hds, List.append_assoc]; rfl⟩
        · rw [← hs5.len]
          exact Nat.lt_of_lt_of_le (by omega) line100k
        · show compGo g t e (wipeD δ vs) (items.drop (i + 1)) s5.ah = _
          rw [e5]
          exact k7
      | false =>
        rw [if_neg Bool.false_ne_true]
        rw [if_neg Bool.false_ne_true] at k4
        exact ⟨s4, acc, rest, rfl, by omega, sd4, by omega, by rw [e4]; exact k4, hds⟩
    · have hi' : i = items.length := by omega
      subst hi'
      rw [List.drop_length] at hgo
      obtain ⟨rfl, e2⟩ := Prod.mk.inj (Option.some.inj hgo)
      refine .inl ⟨d2, ?_⟩
      obtain ⟨s3, vs3, l3, e3, hp3, hs3, eH⟩ := sd.done l1.ok hD
      rw [eH]
      rw [List.append_nil] at hds
      subst hds
      exact q s3 Dl vs3 (l1.trans l3) (by rw [e3, e2]) hp3 hs3
  · cases h2
theorem rf_lc {vs : List Nat} (hv : own.map (·.2) = vs) (hc : X.calm = true) (hN : X.N.Nodup) (bk : BlkOk X.N X.env.scope scope own) (hi : RI X cl tg iter mi) (hg : ∀ s H C cl' fp, RG (BCx X scope s H C cl' fp) cl tg Ts g) (ht : ∀ s H C cl' fp, RTs (BCx X scope s H C cl' fp) cl ifs t) (he : ∀ s H C cl' fp, RE (BCx X scope s H C cl' fp) cl elt e) (hsub : ∀ i ∈ Ts, i ∈ vs)
    (hs : ∀ x, foldedSetIterable iter X.env x = pure x := by intro _; rfl) : RF X cl (.ListComp elt [⟨tg, iter, ifs, 0⟩] scope pos) (fComp mi g t e vs) := fun δ s σ ds ah' Q h ok sv q => by
  subst hv
  exact WE.of (pe_lc hc hN pi_any bk pg_u pts_u pe_u hs) (lc_read hi hg ht he hsub h ok sv q)
end
end MM

set_option linter.all false
set_option maxRecDepth 100000
namespace MM
open PySem L2

/-! ### statements -/
def sSeq (a b : MS) : MS := fun δ ah => (a δ ah).bind fun p => match p.1 with | .nx δ1 => b δ1 p.2 | o => some (o, p.2)
def sNil : MS := fun δ ah => some (.nx δ, ah)
def sNever : MS := fun _ _ => none
def sAsg (g : D → DL → Option DL) (m : ME) : MS := fun δ ah => (m δ ah).bind fun p => (g p.1 δ).map fun δ1 => (.nx δ1, p.2)
def sExpr (m : ME) : MS := fun δ ah => (m δ ah).map fun p => (.nx δ, p.2)
def sRet (m : ME) : MS := fun δ ah => (m δ ah).map fun p => (.rt p.1, p.2)
def sRetN : MS := fun _ ah => some (.rt .non, ah)
def sIf (c : MT) (a b : MS) : MS := fun δ ah => (c δ ah).bind fun p => if p.1 = true then a δ p.2 else b δ p.2
def sBreak : MS := fun δ ah => some (.bk δ, ah)
def sCont : MS := fun δ ah => some (.ct δ, ah)
/-- the mutable thing in a slot is data from here on -/
def sFrz (i : Nat) (r : MS) : MS := fun δ ah => match δ[i]? with
  | some (some d) => (freeze (d, ah)).bind fun p => r (δ.set i (some p.1)) p.2
  | _ => none
section
variable {X : Cx} {cl : Str → Option Addr} {a b e o c value tg iter : Expr} {st : Stmt} {sts body : List Stmt} {pos pos' : Pos} {m ma mb mo mv : ME} {ms mt mr : MS} {mc : MT} {g : D → DL → Option DL} {Ts : List Nat}
theorem rss_nil : RSs X cl [] sNil := fun δ s σ o ah' E h ok sv q => by
  obtain ⟨rfl, rfl⟩ := Prod.mk.inj (Option.some.inj h)
  exact WSs.of pss_nil (q s (Le.refl ok) rfl σ sv)
theorem rss_cons (h1 : RS X cl st ms) (h2 : RSs X cl sts mt) : RSs X cl (st :: sts) (sSeq ms mt) := fun δ s σ o ah' E h ok sv q => by
  obtain ⟨⟨o1, ah1⟩, k1, k2⟩ := Option.bind_eq_some_iff.mp h
  refine WSs.of (pss_cons psW pssW) (h1 δ s σ o1 ah1 _ k1 ok sv fun s1 l1 e1 => ?_)
  cases o1 with
  | nx δ1 =>
    intro σ1 sv1
    exact h2 δ1 s1 σ1 o ah' E (by rw [e1]; exact k2) l1.ok sv1 fun s2 l2 e2 => q s2 (l1.trans l2) e2
  | rt d =>
    obtain ⟨rfl, rfl⟩ := Prod.mk.inj (Option.some.inj k2)
    exact q s1 l1 e1
  | bk δ1 =>
    obtain ⟨rfl, rfl⟩ := Prod.mk.inj (Option.some.inj k2)
    exact q s1 l1 e1
  | ct δ1 =>
    obtain ⟨rfl, rfl⟩ := Prod.mk.inj (Option.some.inj k2)
    exact q s1 l1 e1
theorem rss_one (h1 : RS X cl st ms) : RSs X cl [st] ms := fun δ s σ o ah' E h ok sv q => WSs.of (pss_one psW) (h1 δ s σ o ah' E h ok sv q)
theorem rss_frz {i : Nat} (h : RSs X cl sts ms) : RSs X cl sts (sFrz i ms) := fun δ s σ o ah' E h' ok sv q => by
  unfold sFrz at h'
  split at h'
  · rename_i d ed
    obtain ⟨⟨d2, ah2⟩, k1, k2⟩ := Option.bind_eq_some_iff.mp h'
    obtain ⟨v, hv, dv⟩ := sv.2 i d ed
    obtain ⟨s2, l2, e2, eH, eι, dv2⟩ := freeze_step k1 ok dv
    have sv2 := (sv.le l2).set dv2 i
    have hσ : σ.set i (some v) = σ := by
      apply List.ext_getElem?
      intro j
      by_cases hj : i = j
      · subst hj
        rw [List.getElem?_set_self (List.getElem?_eq_some_iff.mp hv).1, hv]
      · rw [List.getElem?_set_ne hj]
    rw [hσ] at sv2
    rw [← eH]
    exact h _ s2 σ o ah' E (by rw [e2]; exact k2) l2.ok sv2 fun s3 l3 e3 => q s3 (l2.trans l3) e3
  · cases h'
theorem rs_never : RS X cl st sNever := fun δ s σ o ah' E h ok sv q => by cases h
theorem rss_never : RSs X cl sts sNever := fun δ s σ o ah' E h ok sv q => by cases h
theorem rs_pass : RS X cl (.Pass pos) sNil := fun δ s σ o ah' E h ok sv q => by
  obtain ⟨rfl, rfl⟩ := Prod.mk.inj (Option.some.inj h)
  exact WS.of ps_pass (q s (Le.refl ok) rfl σ sv)
theorem rs_break : RS X cl (.Break pos) sBreak := fun δ s σ o ah' E h ok sv q => by
  obtain ⟨rfl, rfl⟩ := Prod.mk.inj (Option.some.inj h)
  exact WS.of ps_break (q s (Le.refl ok) rfl σ sv)
theorem rs_expr (h : RE X cl e m) (hs : swapsWith e none pos.line X.env = pure false := by rfl) : RS X cl (.Expr e pos) (sExpr m) := fun δ s σ o ah' E h' ok sv q => by
  obtain ⟨p, k1, k2⟩ := Option.map_eq_some_iff.mp h'
  obtain ⟨rfl, rfl⟩ := Prod.mk.inj k2
  exact WS.of (ps_expr peW hs) (h δ s σ p.1 p.2 _ k1 ok sv fun s1 v l1 e1 d1 => q s1 l1 e1 σ (sv.le l1))
theorem rs_ret (h : RE X cl e m) : RS X cl (.Return (some e) pos) (sRet m) := fun δ s σ o ah' E h' ok sv q => by
  obtain ⟨p, k1, k2⟩ := Option.map_eq_some_iff.mp h'
  obtain ⟨rfl, rfl⟩ := Prod.mk.inj k2
  exact WS.of (ps_ret peW) (h δ s σ p.1 p.2 _ k1 ok sv fun s1 v l1 e1 d1 => q s1 l1 e1 v d1)
theorem rs_retN : RS X cl (.Return none pos) sRetN := fun δ s σ o ah' E h' ok sv q => by
  obtain ⟨rfl, rfl⟩ := Prod.mk.inj (Option.some.inj h')
  exact WS.of ps_retN (q s (Le.refl ok) rfl .non .non)
theorem rs_if (hc : RT X cl c mc) (h1 : RSs X cl sts ms) (h2 : RSs X cl body mt) : RS X cl (.If c sts body pos) (sIf mc ms mt) := fun δ s σ o ah' E h' ok sv q => by
  obtain ⟨p, k1, k2⟩ := Option.bind_eq_some_iff.mp h'
  refine WS.of (ps_if ptW pssW pssW) (hc δ s σ p.1 p.2 _ k1 ok sv fun s1 l1 e1 => ?_)
  split
  · rename_i k
    rw [if_pos k] at k2
    exact h1 δ s1 σ o ah' E (by rw [e1]; exact k2) l1.ok (sv.le l1) fun s2 l2 e2 => q s2 (l1.trans l2) e2
  · rename_i k
    rw [if_neg k] at k2
    exact h2 δ s1 σ o ah' E (by rw [e1]; exact k2) l1.ok (sv.le l1) fun s2 l2 e2 => q s2 (l1.trans l2) e2
/-! assignments -/
theorem rs_asg (he : RE X cl e m) (hg : RG X cl tg Ts g) (hs : swapsWithSole [tg] e pos.line X.env = pure false := by rfl) (hw : swappedStores [tg] e X.env = pure none := by rfl) (h1 : (assignEach [tg] X.env).map (·.2) = [assign tg X.env] := by rfl) : RS X cl (.Assign [tg] e pos) (sAsg g m) := fun δ s σ o ah' E h' ok sv q => by
  obtain ⟨p, k1, k2⟩ := Option.bind_eq_some_iff.mp h'
  obtain ⟨δ1, k3, k4⟩ := Option.map_eq_some_iff.mp k2
  obtain ⟨rfl, rfl⟩ := Prod.mk.inj k4
  exact WS.of (ps_asg peW pg_any hs hw h1) (he δ s σ p.1 p.2 _ k1 ok sv fun s1 v l1 e1 d1 => hg p.1 v δ δ1 s1 σ _ k3 l1.ok d1 (sv.le l1) fun σ1 sv1 _ _ => q s1 l1 e1 σ1 sv1)
theorem rs_set (i : Nat) {x : Str} (hN : X.N.Nodup) (he : RE X cl e m) (hi : X.N[i]? = some x := by rfl) (hx : Loc X.env.scope x := by first | exact .inl rfl | exact .inr rfl) (hs : swapsWith e (some (.Name x pos')) pos.line X.env = pure false := by rfl) (hf : X.fn x = true ∨ X.env.scope.names.lookup x = some .local := by first | exact .inl rfl | exact .inr rfl) :
    RS X cl (.Assign [.Name x pos'] e pos) (sAsg (tgN i) m) := fun δ s σ o ah' E h' ok sv q => by
  obtain ⟨p, k1, k2⟩ := Option.bind_eq_some_iff.mp h'
  obtain ⟨δ1, k3, k4⟩ := Option.map_eq_some_iff.mp k2
  obtain ⟨rfl, rfl⟩ := Prod.mk.inj k4
  cases k3
  exact WS.of (ps_set hN hi hx peW hs hf) (he δ s σ p.1 p.2 _ k1 ok sv fun s1 v l1 e1 d1 => q s1 l1 e1 _ ((sv.le l1).set d1 i))
/-- x = [..] on one line, the name a local -/
theorem rs_setLc (i : Nat) {y : Str} {py : Pos} {elt tg iter : Expr} {ifs : List Expr} {scope : Scope} {own : List (Str × Nat)} {spos : Pos} {mi : MA} {g : D → DL → Option DL} {t : MT} {e : ME} {Ts vs : List Nat} (hv : own.map (·.2) = vs) (hc : X.calm = true) (hN : X.N.Nodup) (hy : X.N[i]? = some y) (hyl : X.env.scope.names.lookup y = some .local)
    (hsw : swapsWith (.ListComp elt [⟨tg, iter, ifs, 0⟩] scope pos) (some (.Name y py)) spos.line X.env = pure true) (bk : BlkOk X.N X.env.scope scope own) (hi : RI X cl tg iter mi) (hg : ∀ s H C cl' fp, RG (BCx X scope s H C cl' fp) cl tg Ts g) (ht : ∀ s H C cl' fp, RTs (BCx X scope s H C cl' fp) cl ifs t) (he : ∀ s H C cl' fp, RE (BCx X scope s H C cl' fp) cl elt e) (hsub : ∀ i ∈ Ts, i ∈ vs)
    (hs : ∀ x, foldedSetIterable iter X.env x = pure x := by intro _; rfl) : RS X cl (.Assign [.Name y py] (.ListComp elt [⟨tg, iter, ifs, 0⟩] scope pos) spos) (sAsg (tgN i) (eFrz (fComp mi g t e vs))) := fun δ s σ o ah' E h' ok sv q => by
  subst hv
  obtain ⟨p, k1, k2⟩ := Option.bind_eq_some_iff.mp h'
  obtain ⟨δ1, k3, k4⟩ := Option.map_eq_some_iff.mp k2
  obtain ⟨rfl, rfl⟩ := Prod.mk.inj k4
  cases k3
  obtain ⟨r, k5, k6⟩ := Option.map_eq_some_iff.mp k1
  subst k6
  refine WS.of (ps_setLc hc hN hy hyl hsw pi_any bk pg_u pts_u pe_u hs) (lc_read hi hg ht he hsub k5 ok sv fun s1 p vs l1 e1 hp hs => ?_)
  have l2 := le_new l1.ok hp (.lst vs)
  exact q (s1.up p (.lst vs)) (l1.trans l2) e1 _ (((sv.le l1).le l2).set (.lst upd_same (fun a => (l1.ok.nav hp) a) (hs.le l2)) i)
/-- .. the new list mutable -/
theorem rs_setLcO (i : Nat) {y : Str} {py : Pos} {elt tg iter : Expr} {ifs : List Expr} {scope : Scope} {own : List (Str × Nat)} {spos : Pos} {mi : MA} {g : D → DL → Option DL} {t : MT} {e : ME} {Ts vs : List Nat} (hv : own.map (·.2) = vs) (hc : X.calm = true) (hN : X.N.Nodup) (hy : X.N[i]? = some y) (hyl : X.env.scope.names.lookup y = some .local)
    (hsw : swapsWith (.ListComp elt [⟨tg, iter, ifs, 0⟩] scope pos) (some (.Name y py)) spos.line X.env = pure true) (bk : BlkOk X.N X.env.scope scope own) (hi : RI X cl tg iter mi) (hg : ∀ s H C cl' fp, RG (BCx X scope s H C cl' fp) cl tg Ts g) (ht : ∀ s H C cl' fp, RTs (BCx X scope s H C cl' fp) cl ifs t) (he : ∀ s H C cl' fp, RE (BCx X scope s H C cl' fp) cl elt e) (hsub : ∀ i ∈ Ts, i ∈ vs)
    (hs : ∀ x, foldedSetIterable iter X.env x = pure x := by intro _; rfl) : RS X cl (.Assign [.Name y py] (.ListComp elt [⟨tg, iter, ifs, 0⟩] scope pos) spos) (sAsg (tgN i) (eOwn (fComp mi g t e vs))) := fun δ s σ o ah' E h' ok sv q => by
  subst hv
  obtain ⟨p, k1, k2⟩ := Option.bind_eq_some_iff.mp h'
  obtain ⟨δ1, k3, k4⟩ := Option.map_eq_some_iff.mp k2
  obtain ⟨rfl, rfl⟩ := Prod.mk.inj k4
  cases k3
  obtain ⟨r, k5, k6⟩ := Option.map_eq_some_iff.mp k1
  subst k6
  refine WS.of (ps_setLc hc hN hy hyl hsw pi_any bk pg_u pts_u pe_u hs) (lc_read hi hg ht he hsub k5 ok sv fun s1 p vs l1 e1 hp hs => ?_)
  have l2 : Le (gx X cl) s1 (s1.add p (.lst r.1) (.lst vs)) := le_add l1.ok hp ⟨vs, upd_same, hs.mono (gr_add l1.ok hp _ _)⟩
  refine q (s1.add p (.lst r.1) (.lst vs)) (l1.trans l2) (by rw [← e1]; rfl) _ (((sv.le l1).le l2).set (.ptr ?_) i)
  show (s1.ι ++ [p])[r.2.length]? = some p
  rw [← e1, ← l1.ok.len]
  exact List.getElem?_concat_length
/-- x, y = a, b with plain local names -/
def sPar (i j : Nat) (a b : ME) : MS := fun δ ah => (a δ ah).bind fun p => (b δ p.2).map fun q => (.nx ((δ.set i (some p.1)).set j (some q.1)), q.2)
theorem rs_par (i j : Nat) {x y : Str} {px py pt : Pos} {kt k2 pt2} (hN : X.N.Nodup) (ha : RE X cl a ma) (hb : RE X cl b mb) (hw : swappedStores [.Tuple [.Name x px, .Name y py] kt pt] (.Tuple [a, b] k2 pt2) X.env = pure (some [x, y])) (hi : X.N[i]? = some x := by rfl) (hj : X.N[j]? = some y := by rfl) (hij : i ≠ j := by decide)
    (hx : X.env.scope.names.lookup x = some .local := by rfl) (hy : X.env.scope.names.lookup y = some .local := by rfl) (hc : X.calm = true := by rfl) (hst : starEach [a, b] X.env = (false, eval a X.env) :: starEach [b] X.env := by rfl) (hst2 : starEach [b] X.env = (false, eval b X.env) :: starEach [] X.env := by rfl)
    (hs : swapsWithSole [.Tuple [.Name x px, .Name y py] kt pt] (.Tuple [a, b] k2 pt2) pos.line X.env = pure false := by rfl) : RS X cl (.Assign [.Tuple [.Name x px, .Name y py] kt pt] (.Tuple [a, b] k2 pt2) pos) (sPar i j ma mb) := fun δ s σ o ah' E h' ok sv q => by
  obtain ⟨p, k1, k2⟩ := Option.bind_eq_some_iff.mp h'
  obtain ⟨r, k3, k4⟩ := Option.map_eq_some_iff.mp k2
  obtain ⟨rfl, rfl⟩ := Prod.mk.inj k4
  refine WS.of (ps_par hc hN hi hj hij hx hy (pa_cons peW (pa_cons peW pa_nil hst2) hst) hw hs) (ha δ s σ p.1 p.2 _ k1 ok sv fun s1 v l1 e1 d1 => ?_)
  exact hb δ s1 σ r.1 r.2 _ (by rw [e1]; exact k3) l1.ok (sv.le l1) fun s2 w l2 e2 d2 => ⟨v, w, rfl, q s2 (l1.trans l2) e2 _ ((((sv.le l1).le l2).set (d1.le l2) i).set d2 j)⟩
/-- o.f = e -/
def setAttr (f : Str) (d : D) : List (Str × D) → List (Str × D)
  | [] => [(f, d)]
  | (g, x) :: r => if g = f then (g, d) :: r else (g, x) :: setAttr f d r
def insAt (ah : AH) (n : Nat) : Option (Str × List (Str × D)) := match ah[n]? with | some (.ins c f) => some (c, f) | _ => none
theorem insAt_some {ah : AH} {n : Nat} {c : Str} {f : List (Str × D)} (h : insAt ah n = some (c, f)) : ah[n]? = some (.ins c f) := by
  unfold insAt at h
  split at h
  · rename_i c' f' e
    obtain ⟨rfl, rfl⟩ := Prod.mk.inj (Option.some.inj h)
    exact e
  · cases h
def sFldM (cs : List Str) (f : Str) (mo mv : ME) : MS := fun δ ah => (mv δ ah).bind fun p => (mo δ p.2).bind fun q => match q.1 with
  | .ptr n => (insAt q.2 n).bind fun r => if r.1 ∈ cs ∧ r.2.length < 100 then some (.nx δ, q.2.set n (.ins r.1 (setAttr f p.1 r.2))) else none
  | _ => none
theorem setAttr_v {G : Gx} {s : S} {f : Str} {d : D} {v : V} (dv : DV G s d v) : ∀ {l : List (Str × D)} {fs : List (Str × V)}, fs.map (·.1) = l.map (·.1) → DVs G s (l.map (·.2)) (fs.map (·.2)) →
    (putF f v fs).map (·.1) = (setAttr f d l).map (·.1) ∧ DVs G s ((setAttr f d l).map (·.2)) ((putF f v fs).map (·.2))
  | [], [], _, _ => ⟨rfl, .cons dv .nil⟩
  | [], _ :: _, h, _ => by simp at h
  | _ :: _, [], h, _ => by simp at h
  | (j, x) :: l, (j', y) :: fs, h, hs => by
    simp only [List.map_cons, List.cons.injEq] at h hs
    obtain ⟨rfl, h⟩ := h
    cases hs with
    | cons h1 h2 =>
      unfold setAttr putF
      by_cases e : j' = f
      · rw [if_pos e, if_pos e]
        exact ⟨by simp [h], .cons dv h2⟩
      · rw [if_neg e, if_neg e]
        obtain ⟨i1, i2⟩ := setAttr_v dv h h2
        exact ⟨by simp [i1], .cons h1 i2⟩
theorem rs_fld {cs : List Str} {f : Str} (hf : FldOk X.K cl cs f) (hv : RE X cl value mv) (ho : RE X cl o mo) (hs : swapsWith value (some (.Attribute o f pos')) pos.line X.env = pure false := by rfl) : RS X cl (.Assign [.Attribute o f pos'] value pos) (sFldM cs f mo mv) := fun δ s σ ou ah' E h' ok sv q => by
  obtain ⟨p, k1, k2⟩ := Option.bind_eq_some_iff.mp h'
  obtain ⟨⟨z, za⟩, k3, k4⟩ := Option.bind_eq_some_iff.mp k2
  cases z with
  | ptr n =>
    obtain ⟨⟨c, l⟩, k5, k6⟩ := Option.bind_eq_some_iff.mp k4
    split at k6
    · rename_i hcl
      obtain ⟨rfl, rfl⟩ := Prod.mk.inj (Option.some.inj k6)
      refine WS.of (ps_fld peW peW hs) (hv δ s σ p.1 p.2 _ k1 ok sv fun s1 v l1 e1 d1 => ho δ s1 σ _ _ _ (by rw [e1]; exact k3) l1.ok (sv.le l1) fun s2 w l2 e2 d2 => ?_)
      obtain ⟨a, ea, rfl⟩ := ptr_at d2
      have ei := insAt_some k5
      rw [← show s2.ah = za from e2] at ei
      obtain ⟨C, dx, fs, hc, hH, hk, hd⟩ := l2.ok.obj n a _ ea ei
      obtain ⟨t1, t2⟩ := hf c hcl.1 C hc
      refine ⟨a, C, dx, fs, rfl, hH, t1, t2, ?_, ?_⟩
      · rw [map_len hk]
        exact Nat.lt_of_lt_of_le hcl.2 (by decide)
      · obtain ⟨w1, w2⟩ := setAttr_v (f := f) (d1.le l2) hk hd
        have g := gr_put ea ei (by intro q; cases q) (.ins c (setAttr f p.1 l)) (.ins C dx (putF f v fs))
        have l3 : Le (gx X cl) s2 (s2.put n a (.ins c (setAttr f p.1 l)) (.ins C dx (putF f v fs))) := le_put l2.ok ea ei (by intro q; cases q) ⟨C, dx, _, hc, upd_same, w1, w2.mono g⟩
        exact q _ (l1.trans (l2.trans l3)) (by show s2.ah.set n _ = _; rw [show s2.ah = za from e2]) σ (((sv.le l1).le l2).le l3)
    · cases k6
  | _ => cases k4
/-- o[i] = e of a list -/
def sSubL (mo mi mv : ME) : MS := fun δ ah => (mv δ ah).bind fun p => (mo δ p.2).bind fun q => (mi δ q.2).bind fun r => match q.1, r.1 with
  | .ptr n, .int k => (lstAt r.2 n).bind fun l => (ixN l.length k).map fun j => (.nx δ, r.2.set n (.lst (l.set j p.1)))
  | _, _ => none
theorem rs_subL {i : Expr} {mi : ME} (hv : RE X cl value mv) (ho : RE X cl o mo) (hi : RE X cl i mi) (ha : ∀ v, assign (.Subscript o i pos') X.env v = (do let ov ← holding [v] (eval o X.env); let iv ← holding [v, ov] (eval i X.env); standAt pos'; holding [v, ov, iv] (setItem ov iv v); release [v, ov, iv] []) := by intro _; rfl)
    (hs : swapsWithSole [.Subscript o i pos'] value pos.line X.env = pure false := by rfl) (hw : swappedStores [.Subscript o i pos'] value X.env = pure none := by rfl) (h1 : (assignEach [.Subscript o i pos'] X.env).map (·.2) = [assign (.Subscript o i pos') X.env] := by rfl) : RS X cl (.Assign [.Subscript o i pos'] value pos) (sSubL mo mi mv) := fun δ s σ ou ah' E h' ok sv q => by
  obtain ⟨p, k1, k2⟩ := Option.bind_eq_some_iff.mp h'
  obtain ⟨⟨z, za⟩, k3, k4⟩ := Option.bind_eq_some_iff.mp k2
  obtain ⟨⟨y, ya⟩, k5, k6⟩ := Option.bind_eq_some_iff.mp k4
  cases z with
  | ptr n =>
    cases y with
    | int k =>
      obtain ⟨l, k7, k8⟩ := Option.bind_eq_some_iff.mp k6
      obtain ⟨j, k9, k10⟩ := Option.map_eq_some_iff.mp k8
      obtain ⟨rfl, rfl⟩ := Prod.mk.inj k10
      refine WS.of (ps_asg peW (pg_sub peW peW set_list ha) hs hw h1) (hv δ s σ p.1 p.2 _ k1 ok sv fun s1 v l1 e1 d1 => ho δ s1 σ _ _ _ (by rw [e1]; exact k3) l1.ok (sv.le l1) fun s2 w l2 e2 d2 => ?_)
      refine hi δ s2 σ _ _ _ (by rw [e2]; exact k5) l2.ok ((sv.le l1).le l2) fun s3 u l3 e3 d3 => ?_
      obtain ⟨a, ea, rfl⟩ := ptr_at (d2.le l3)
      cases d3
      have ei := lstAt_some k7
      rw [← show s3.ah = ya from e3] at ei
      obtain ⟨vs, hH, hd⟩ := l3.ok.obj n a _ ea ei
      refine ⟨a, vs, k, j, rfl, rfl, hH, by rw [← hd.len]; exact k9, ?_⟩
      have g := gr_put ea ei (by intro q; cases q) (.lst (l.set j p.1)) (.lst (vs.set j v))
      have l4 : Le (gx X cl) s3 (s3.put n a (.lst (l.set j p.1)) (.lst (vs.set j v))) := le_put l3.ok ea ei (by intro q; cases q) ⟨_, upd_same, (DVs.set ((d1.le l2).le l3) j hd).mono g⟩
      exact q _ (l1.trans (l2.trans (l3.trans l4))) (by show s3.ah.set n _ = _; rw [show s3.ah = ya from e3]) σ ((((sv.le l1).le l2).le l3).le l4)
    | _ => cases k6
  | _ => cases k6
/-- o[k] = e of a dict with keys ints and texts -/
def putD (l : List (Key × D)) (k : Key) (d : D) : List (Key × D) := if (l.any fun kv => decide (kv.1 = k)) = true then l.map (fun kv => if kv.1 = k then (kv.1, d) else kv) else l ++ [(k, d)]
theorem putD_v {G : Gx} {s : S} {d : D} {v : V} (dv : DV G s d v) {l : List (Key × D)} {kvs : List (Key × V)} {k : Key} (hk : kvs.map (·.1) = l.map (·.1)) (hs : DVs G s (l.map (·.2)) (kvs.map (·.2))) :
    (putK kvs k v).map (·.1) = (putD l k d).map (·.1) ∧ DVs G s ((putD l k d).map (·.2)) ((putK kvs k v).map (·.2)) := by
  have e1 : (kvs.any fun kv => decide (kv.1 = k)) = l.any fun kv => decide (kv.1 = k) := by
    have a : ∀ (z : List (Key × V)), (z.any fun kv => decide (kv.1 = k)) = (z.map (·.1)).any fun j => decide (j = k) := fun z => by rw [List.any_map]; rfl
    have b : ∀ (z : List (Key × D)), (z.any fun kv => decide (kv.1 = k)) = (z.map (·.1)).any fun j => decide (j = k) := fun z => by rw [List.any_map]; rfl
    rw [a, b, hk]
  unfold putK putD
  rw [e1]
  split
  · refine ⟨?_, ?_⟩
    · have a : ∀ (z : List (Key × V)), (z.map fun kv => if kv.1 = k then (kv.1, v) else kv).map (·.1) = z.map (·.1) := fun z => by
        rw [List.map_map]
        refine List.map_congr_left fun p _ => ?_
        show (if p.1 = k then (p.1, v) else p).1 = p.1
        split <;> rfl
      have b : ∀ (z : List (Key × D)), (z.map fun kv => if kv.1 = k then (kv.1, d) else kv).map (·.1) = z.map (·.1) := fun z => by
        rw [List.map_map]
        refine List.map_congr_left fun p _ => ?_
        show (if p.1 = k then (p.1, d) else p).1 = p.1
        split <;> rfl
      rw [a, b, hk]
    · rename_i hh; clear hh e1
      induction l generalizing kvs with
      | nil =>
        cases kvs with
        | nil => exact .nil
        | cons _ _ => simp at hk
      | cons p r ih =>
        cases kvs with
        | nil => simp at hk
        | cons q t =>
          simp only [List.map_cons, List.cons.injEq] at hk hs ⊢
          cases hs with
          | cons h1 h2 =>
            refine .cons ?_ (ih hk.2 h2)
            rw [hk.1]
            by_cases e : p.1 = k
            · rw [if_pos e, if_pos e]
              exact dv
            · rw [if_neg e, if_neg e]
              exact h1
  · refine ⟨by simp [hk], ?_⟩
    rw [List.map_append, List.map_append]
    exact hs.append (.cons dv .nil)
def dicAt (ah : AH) (n : Nat) : Option (List (Key × D)) := match ah[n]? with | some (.dic l) => some l | _ => none
theorem dicAt_some {ah : AH} {n : Nat} {l : List (Key × D)} (h : dicAt ah n = some l) : ah[n]? = some (.dic l) := by
  unfold dicAt at h
  split at h
  · rename_i m e
    rw [e]
    exact congrArg (fun z => some (AO.dic z)) (Option.some.inj h)
  · cases h
def sSubD (mo mi mv : ME) : MS := fun δ ah => (mv δ ah).bind fun p => (mo δ p.2).bind fun q => (mi δ q.2).bind fun r => match q.1 with
  | .ptr n => (keyOf r.1).bind fun k => (dicAt r.2 n).bind fun l => if l.length < 100000 then some (.nx δ, r.2.set n (.dic (putD l k p.1))) else none
  | _ => none
theorem rs_subD {i : Expr} {mi : ME} (hu : X.A.units + 64 < cLine) (hv : RE X cl value mv) (ho : RE X cl o mo) (hi : RE X cl i mi) (hs : swapsWith value (some (.Subscript o i pos')) pos.line X.env = pure false := by rfl) : RS X cl (.Assign [.Subscript o i pos'] value pos) (sSubD mo mi mv) := fun δ s σ ou ah' E h' ok sv q => by
  obtain ⟨p, k1, k2⟩ := Option.bind_eq_some_iff.mp h'
  obtain ⟨⟨z, za⟩, k3, k4⟩ := Option.bind_eq_some_iff.mp k2
  obtain ⟨⟨y, ya⟩, k5, k6⟩ := Option.bind_eq_some_iff.mp k4
  cases z with
  | ptr n =>
    obtain ⟨k, k7, k8⟩ := Option.bind_eq_some_iff.mp k6
    obtain ⟨l, k9, k10⟩ := Option.bind_eq_some_iff.mp k8
    split at k10
    · rename_i hl
      obtain ⟨rfl, rfl⟩ := Prod.mk.inj (Option.some.inj k10)
      refine WS.of (ps_dput (by omega) peW peW peW hs) (hv δ s σ p.1 p.2 _ k1 ok sv fun s1 v l1 e1 d1 => ho δ s1 σ _ _ _ (by rw [e1]; exact k3) l1.ok (sv.le l1) fun s2 w l2 e2 d2 => ?_)
      refine hi δ s2 σ _ _ _ (by rw [e2]; exact k5) l2.ok ((sv.le l1).le l2) fun s3 u l3 e3 d3 => ?_
      obtain ⟨a, ea, rfl⟩ := ptr_at (d2.le l3)
      have ei := dicAt_some k9
      rw [← show s3.ah = ya from e3] at ei
      obtain ⟨kvs, hH, hk, hd⟩ := l3.ok.obj n a _ ea ei
      obtain ⟨w1, w2⟩ := putD_v (k := k) ((d1.le l2).le l3) hk hd
      refine ⟨a, _, rfl, .inl ⟨kvs, k, hH, keyOf_v d3 k7, ?_, rfl⟩, ?_⟩
      · rw [map_len hk]
        exact Nat.lt_of_lt_of_le hl line100k
      · have g := gr_put ea ei (by intro q; cases q) (.dic (putD l k p.1)) (.dK (putK kvs k v))
        have l4 : Le (gx X cl) s3 (s3.put n a (.dic (putD l k p.1)) (.dK (putK kvs k v))) := le_put l3.ok ea ei (by intro q; cases q) ⟨_, upd_same, w1, w2.mono g⟩
        exact q _ (l1.trans (l2.trans (l3.trans l4))) (by show s3.ah.set n _ = _; rw [show s3.ah = ya from e3]) σ ((((sv.le l1).le l2).le l3).le l4)
    · cases k10
  | _ => cases k6
/-- o[i] += e of a list, ints -/
def sAugL (mo mi mv : ME) : MS := fun δ ah => (mo δ ah).bind fun q => (mi δ q.2).bind fun r => match q.1, r.1 with
  | .ptr n, .int k => (lstAt r.2 n).bind fun l => match atI l k with
    | some (.int x) => (mv δ r.2).bind fun p => match p.1 with
      | .int y => (lstAt p.2 n).bind fun l2 => (ixN l2.length k).map fun j => (.nx δ, p.2.set n (.lst (l2.set j (.int (x + y)))))
      | _ => none
    | _ => none
  | _, _ => none
end
end MM

set_option linter.all false
set_option maxRecDepth 100000
namespace MM
open PySem L2

/-! ### o[i] += e of a list -/
def pgL : V → V → Hp → VK → Prop := fun o i H Q => ∃ p xs k x, o = .ref p ∧ i = .int k ∧ H p = some (.lst xs) ∧ atI xs k = some x ∧ Q x H
theorem get_lst {X : Cx} : PGet X pgL := fun pins s σ H o i ov iv Q I ro ri h => by
  obtain ⟨p, xs, k, x, rfl, rfl, hp, he, q⟩ := h
  cases ro
  obtain ⟨t, rfl⟩ := ri
  obtain ⟨its, r, pl, hz⟩ := I.list (.inl (.inl hp))
  obtain ⟨j, h1, h2, h3, h4, h5⟩ := atI_get he
  obtain ⟨w, ew, rw'⟩ := r.get h2
  have hl := r.length
  have hn := line63
  have fin : EP X pins σ Q w s := ⟨x, H, I, rw', q⟩
  by_cases h0 : 0 ≤ k
  · have hj : k.toNat = j := by
      rw [seqIndex_of h0 h5] at h1
      exact Option.some.inj h1
    exact wpAny_getItem_list pl.isList h0 (by omega) (by rw [hj]; simpa using ew) fin
  · have hj : (k + (its.toArray.size : Int)).toNat = j := by
      rw [seqIndex_neg (by omega) h4] at h1
      rw [List.size_toArray, ← hl]
      exact Option.some.inj h1
    exact wpAny_getItem_list_neg pl.isList (by omega) (by rw [List.size_toArray] <;> omega) (by omega) (by rw [hj]; simpa using ew) fin
section
variable {X : Cx} {cl : Str → Option Addr} {a b e o c value tg iter : Expr} {st : Stmt} {sts body : List Stmt} {pos pos' : Pos} {m ma mb mo mv mi : ME} {ms mt mr : MS} {mc : MT} {ml : MA} {g : D → DL → Option DL} {Ts : List Nat}
theorem rs_augL {i : Expr} {tpos : Pos} (ho : RE X cl o mo) (hi : RE X cl i mi) (hv : RE X cl value mv)
    (ha : ∀ ov iv new, augStore i ov iv new = (do holding [new, ov, iv] (setItem ov iv new); release [new, ov, iv] []; pure .next) := by intros; rfl) : RS X cl (.AugAssign (.Subscript o i tpos) .Add value pos) (sAugL mo mi mv) := fun δ s σ ou ah' E h' ok sv q => by
  obtain ⟨⟨z, za⟩, k1, k2⟩ := Option.bind_eq_some_iff.mp h'
  obtain ⟨⟨y, ya⟩, k3, k4⟩ := Option.bind_eq_some_iff.mp k2
  cases z with
  | ptr n =>
    cases y with
    | int k =>
      obtain ⟨l, k5, k6⟩ := Option.bind_eq_some_iff.mp k4
      simp only at k6
      split at k6
      · rename_i x hx
        obtain ⟨⟨w, wa⟩, k7, k8⟩ := Option.bind_eq_some_iff.mp k6
        cases w with
        | int u =>
          obtain ⟨l2, k9, k10⟩ := Option.bind_eq_some_iff.mp k8
          obtain ⟨j, k11, k12⟩ := Option.map_eq_some_iff.mp k10
          obtain ⟨rfl, rfl⟩ := Prod.mk.inj k12
          refine WS.of (ps_augS peW peW get_lst peW ip_add set_list ha) (ho δ s σ _ _ _ k1 ok sv fun s1 v l1 e1 d1 => hi δ s1 σ _ _ _ (by rw [e1]; exact k3) l1.ok (sv.le l1) fun s2 iv l2' e2 d2 => ?_)
          obtain ⟨a, ea, rfl⟩ := ptr_at (d1.le l2')
          cases d2
          have ei := lstAt_some k5
          rw [← show s2.ah = ya from e2] at ei
          obtain ⟨vs, hH, hd⟩ := l2'.ok.obj n a _ ea ei
          obtain ⟨xv, h1, h2⟩ := atI_v hd hx
          refine ⟨a, vs, k, xv, rfl, rfl, hH, h1, ?_⟩
          cases h2
          refine hv δ s2 σ _ _ _ (by rw [e2]; exact k7) l2'.ok ((sv.le l1).le l2') fun s3 w3 l3 e3 d3 => ?_
          cases d3
          refine ⟨_, _, rfl, rfl, ?_⟩
          have ea3 := l3.pre n a ea
          have ei3 := lstAt_some k9
          rw [← show s3.ah = wa from e3] at ei3
          obtain ⟨vs3, hH3, hd3⟩ := l3.ok.obj n a _ ea3 ei3
          refine ⟨a, vs3, k, j, rfl, rfl, hH3, by rw [← hd3.len]; exact k11, ?_⟩
          have gg := gr_put ea3 ei3 (by intro q; cases q) (.lst (l2.set j (.int (x + u)))) (.lst (vs3.set j (.int (x + u))))
          have l4 : Le (gx X cl) s3 (s3.put n a (.lst (l2.set j (.int (x + u)))) (.lst (vs3.set j (.int (x + u))))) := le_put l3.ok ea3 ei3 (by intro q; cases q) ⟨_, upd_same, (DVs.set (.int _) j hd3).mono gg⟩
          exact q _ (l1.trans (l2'.trans (l3.trans l4))) (by show s3.ah.set n _ = _; rw [show s3.ah = wa from e3]) σ ((((sv.le l1).le l2').le l3).le l4)
        | _ => cases k8
      · cases k6
    | _ => cases k4
  | _ => cases k4
/-! ### loops -/
def forGo (g : D → DL → Option DL) (b : MS) : List D → MS
  | [] => sNil
  | d :: r => fun δ ah => (g d δ).bind fun δ1 => (b δ1 ah).bind fun p => match p.1 with
    | .nx δ2 => forGo g b r δ2 p.2
    | .ct δ2 => forGo g b r δ2 p.2
    | .bk δ2 => some (.nx δ2, p.2)
    | .rt d => some (.rt d, p.2)
def sFor (mi : MA) (g : D → DL → Option DL) (b : MS) : MS := fun δ ah => (mi δ ah).bind fun p => forGo g b p.1 δ p.2
theorem rs_for (hp : PassesOwn (model X.prog X.w) X.A X.env X.xe) (hc : X.calm = true) (hi : RI X cl tg iter ml) (hg : RG X cl tg Ts g) (hb : RSs X cl body ms) (hs : ∀ x, foldedSetIterable iter X.env x = pure x := by intro _; rfl) : RS X cl (.For tg iter body [] pos) (sFor ml g ms) := fun δ s σ o ah' E h ok sv q => by
  obtain ⟨⟨items, ah1⟩, h1, h2⟩ := Option.bind_eq_some_iff.mp h
  refine WS.of (ps_for hp hc pi_any pg_any pssW hs) ?_
  refine hi δ s σ items ah1 _ h1 ok sv fun s1 J l1 e1 drv => ?_
  refine ⟨fun i m σ H => ∃ s2 δ2, s2.H = H ∧ i + m = items.length ∧ Le (gx X cl) s1 s2 ∧ SV (gx X cl) s2 δ2 σ ∧ forGo g ms (items.drop i) δ2 s2.ah = some (o, ah'), ⟨items.length, s1, δ, rfl, Nat.zero_add _, Le.refl l1.ok, sv.le l1, by rw [List.drop_zero, e1]; exact h2⟩, fun i m σ2 H hW => ?_⟩
  obtain ⟨s2, δ2, rfl, him, l2, sv2, hgo⟩ := hW
  obtain ⟨d1, d2, d3⟩ := drv s2 l2.gr l2.ok
  by_cases hi : i < items.length
  · refine .inr ⟨d1 i hi, fun σ' H' => ∃ s3 δ3, s3.H = H' ∧ (i + 1) + (m - 1) = items.length ∧ Le (gx X cl) s1 s3 ∧ SV (gx X cl) s3 δ3 σ' ∧ forGo g ms (items.drop (i + 1)) δ3 s3.ah = some (o, ah'), fun σ' H' hN => ⟨m - 1, by omega, hN⟩, fun x H' hy => ?_⟩
    obtain ⟨l3, dv3⟩ := d3 i items[i] x H' (List.getElem?_eq_getElem hi) hy
    rw [List.drop_eq_getElem_cons hi] at hgo
    obtain ⟨δ1, k1, k2⟩ := Option.bind_eq_some_iff.mp hgo
    obtain ⟨⟨o1, ah2⟩, k3, k4⟩ := Option.bind_eq_some_iff.mp k2
    refine hg items[i] x δ2 δ1 { s2 with H := H' } σ2 _ k1 l3.ok dv3 (sv2.le l3) fun σ3 sv3 _ _ => ?_
    refine hb δ1 { s2 with H := H' } σ3 o1 ah2 _ k3 l3.ok sv3 fun s4 l4 e4 => ?_
    cases o1 with
    | nx δ4 =>
      intro σ5 sv5
      exact ⟨s4, δ4, rfl, by omega, l2.trans (l3.trans l4), sv5, by rw [e4]; exact k4⟩
    | ct δ4 =>
      intro σ5 sv5
      exact ⟨s4, δ4, rfl, by omega, l2.trans (l3.trans l4), sv5, by rw [e4]; exact k4⟩
    | bk δ4 =>
      obtain ⟨rfl, rfl⟩ := Prod.mk.inj (Option.some.inj k4)
      exact fun σ5 sv5 => q s4 (l1.trans (l2.trans (l3.trans l4))) e4 σ5 sv5
    | rt d =>
      obtain ⟨rfl, rfl⟩ := Prod.mk.inj (Option.some.inj k4)
      exact fun v dv => q s4 (l1.trans (l2.trans (l3.trans l4))) e4 v dv
  · have hi' : i = items.length := by omega
    subst hi'
    rw [List.drop_length] at hgo
    obtain ⟨rfl, e2⟩ := Prod.mk.inj (Option.some.inj hgo)
    exact .inl ⟨d2, q s2 (l1.trans l2) e2 σ2 sv2⟩
def whGo (c : MT) (b : MS) : Nat → MS
  | 0 => fun _ _ => none
  | n + 1 => fun δ ah => (c δ ah).bind fun p => if p.1 = true then (b δ p.2).bind fun o => match o.1 with
    | .nx δ1 => whGo c b n δ1 o.2
    | .ct δ1 => whGo c b n δ1 o.2
    | .bk δ1 => some (.nx δ1, o.2)
    | .rt d => some (.rt d, o.2)
    else some (.nx δ, p.2)
theorem rs_while (n : Nat) (hp : PassesOwn (model X.prog X.w) X.A X.env X.xe) (hc : RT X cl c mc) (hb : RSs X cl body ms) : RS X cl (.While c body [] pos) (whGo mc ms n) := fun δ s σ o ah' E h ok sv q => by
  refine WS.of (ps_while hp ptW pssW) ?_
  refine ⟨fun m σ H => ∃ s2 δ2, s2.H = H ∧ Le (gx X cl) s s2 ∧ SV (gx X cl) s2 δ2 σ ∧ whGo mc ms m δ2 s2.ah = some (o, ah'), ⟨n, s, δ, rfl, Le.refl ok, sv, h⟩, fun m σ2 H hW => ?_⟩
  obtain ⟨s2, δ2, rfl, l2, sv2, hgo⟩ := hW
  cases m with
  | zero => cases hgo
  | succ m =>
    obtain ⟨⟨b, ah1⟩, k1, k2⟩ := Option.bind_eq_some_iff.mp hgo
    refine hc δ2 s2 σ2 b ah1 _ k1 l2.ok sv2 fun s3 l3 e3 => ?_
    cases b with
    | true =>
      rw [if_pos rfl]
      rw [if_pos rfl] at k2
      refine ⟨fun σ' H' => ∃ s4 δ4, s4.H = H' ∧ Le (gx X cl) s s4 ∧ SV (gx X cl) s4 δ4 σ' ∧ whGo mc ms m δ4 s4.ah = some (o, ah'), fun σ' H' hN => ⟨m, Nat.lt_succ_self m, hN⟩, ?_⟩
      obtain ⟨⟨o1, ah2⟩, k3, k4⟩ := Option.bind_eq_some_iff.mp k2
      refine hb δ2 s3 σ2 o1 ah2 _ (by rw [e3]; exact k3) l3.ok (sv2.le l3) fun s4 l4 e4 => ?_
      cases o1 with
      | nx δ4 =>
        intro σ5 sv5
        exact ⟨s4, δ4, rfl, l2.trans (l3.trans l4), sv5, by rw [e4]; exact k4⟩
      | ct δ4 =>
        intro σ5 sv5
        exact ⟨s4, δ4, rfl, l2.trans (l3.trans l4), sv5, by rw [e4]; exact k4⟩
      | bk δ4 =>
        obtain ⟨rfl, rfl⟩ := Prod.mk.inj (Option.some.inj k4)
        exact fun σ5 sv5 => q s4 (l2.trans (l3.trans l4)) e4 σ5 sv5
      | rt d =>
        obtain ⟨rfl, rfl⟩ := Prod.mk.inj (Option.some.inj k4)
        exact fun v dv => q s4 (l2.trans (l3.trans l4)) e4 v dv
    | false =>
      rw [if_neg Bool.false_ne_true]
      rw [if_neg Bool.false_ne_true] at k2
      obtain ⟨rfl, rfl⟩ := Prod.mk.inj (Option.some.inj k2)
      exact q s3 (l2.trans l3) e3 σ2 (sv2.le l3)
/-! ### a try whose body raises nothing -/
theorem rs_try {hd : ExceptHandler} {hds : List ExceptHandler} (h : RSs X.nox cl body ms) : RS X cl (.Try body (hd :: hds) [] [] pos) ms := fun δ s σ o ah' E h' ok sv q => WS.of (ps_try_thru0 pssW) (h δ s σ o ah' E h' ok sv q)
/-! ### a, b, c = a list -/
def sUnl (gs : List D → DL → Option DL) (m : ME) : MS := fun δ ah => (m δ ah).bind fun p => (asL p.2 p.1).bind fun l => (gs l δ).map fun δ1 => (.nx δ1, p.2)
theorem rs_unl {tgs : List Expr} {k : Nat} {tp : Pos} {gs : List D → DL → Option DL} (hc : X.calm = true) (he : RE X cl e m) (hgs : RGs X cl tgs Ts gs) (hl : ∀ l δ δ', gs l δ = some δ' → l.length = (assignEach tgs X.env).length) (hst : (assignEach tgs X.env).findIdx? (·.1) = none := by rfl)
    (hs : swapsWithSole [.Tuple tgs k tp] e pos.line X.env = pure false := by rfl) (hw : swappedStores [.Tuple tgs k tp] e X.env = pure none := by rfl) (h1 : (assignEach [.Tuple tgs k tp] X.env).map (·.2) = [assign (.Tuple tgs k tp) X.env] := by rfl) : RS X cl (.Assign [.Tuple tgs k tp] e pos) (sUnl gs m) := fun δ s σ o ah' E h' ok sv q => by
  obtain ⟨p, k1, k2⟩ := Option.bind_eq_some_iff.mp h'
  obtain ⟨l, k3, k4⟩ := Option.bind_eq_some_iff.mp k2
  obtain ⟨δ1, k5, k6⟩ := Option.map_eq_some_iff.mp k4
  obtain ⟨rfl, rfl⟩ := Prod.mk.inj k6
  refine WS.of (ps_asg peW (pg_unl hc pgs_any rfl hst) hs hw h1) (he δ s σ p.1 p.2 _ k1 ok sv fun s1 v l1 e1 d1 => ?_)
  obtain ⟨a, vs, rfl, hr, hd⟩ := asL_view (l := l) (by rw [e1]; exact k3) l1.ok d1
  exact ⟨a, vs, rfl, .inl (.inl hr), by rw [← hd.len]; exact hl _ _ _ k5, hgs l vs δ δ1 s1 σ _ k5 l1.ok hd (sv.le l1) fun σ1 sv1 _ _ => q s1 l1 e1 σ1 sv1⟩
end
end MM

set_option linter.all false
set_option maxRecDepth 100000
/-! enumerate over a zip of two lists: the zip's tuple may still be out at its next turn. -/
namespace MM
open PySem PySem.Spec PyProof.Rows L2
/-- the zip's record, whatever it gave out before -/
abbrev ZRec (h : Heap) (z TI TO : Addr) (f0 : Value) (f : Bool) : Prop :=
  h.get? z = some { cls := .type "zip", dict := none, data := .fields #[f0, .bool f, .bool false, .ref TI, .ref TO], slots := #[] }
section
variable {prog : Program} {w : World} {A : Around} {E : Value → Shared → Prop} {s : Shared} {z TI TO i1 i2 a1 a2 : Addr} {f0 : Value} {f : Bool} {m1 m2 : Nat} {xs ys : Array Value} {u v p q : Value}
theorem ld_dead {T : Addr} {Q : Option Obj → Shared → Prop} (ho : s.heap.get? T = none) (h : Q none s) : wpAny (model prog w) A (loadIfAlive T) Q E s := by
  have hq : Q (s.heap.get? T) s := by rw [ho]; exact h
  exact fun _ _ _ => hq
theorem zr_free {Q : Bool → Shared → Prop} (hz : ZRec s.heap z TI TO f0 f) (hf : f0 = .none ∨ ∃ T : Nat, f0 = rawInt T ∧ s.heap.get? T = none) (h : Q true s) : wpAny (model prog w) A (Builtin.SmallTypes.ownedTupleIsFree (.ref z)) Q E s := by
  unfold Builtin.SmallTypes.ownedTupleIsFree
  refine wpAny_bind (wpAny_field hz rfl (x := f0) rfl ?_)
  rcases hf with rfl | ⟨T, rfl, hT⟩
  · exact wpAny_pure h
  · show wpAny _ _ (loadIfAlive ((T : Int).toNat) >>= _) _ _ _
    rw [Int.toNat_natCast]
    exact wpAny_bind (ld_dead hT (wpAny_pure h))
theorem zr_item {Q : Value → Shared → Prop} (D : ZipApart z TI TO i1 i2 a1 a2) (hz : ZRec s.heap z TI TO f0 f) (hf : f0 = .none ∨ ∃ T : Nat, f0 = rawInt T ∧ s.heap.get? T = none) (hI : IsPair s.heap TI (.ref i1) (.ref i2)) (hO : IsPair s.heap TO p q)
    (k1 : s.heap.IsListIter i1 a1 m1) (k2 : s.heap.IsListIter i2 a2 m2) (hl1 : s.heap.IsList a1 xs) (hl2 : s.heap.IsList a2 ys) (hu : xs[m1]? = some u) (hv : ys[m2]? = some v)
    (fin : ∀ g, ZRec g z TI TO (rawInt s.heap.objs.size) false → IsPair g TO u v → g.IsListIter i1 a1 (m1 + 1) → g.IsListIter i2 a2 (m2 + 1) → IsPair g s.heap.objs.size u v → g.objs.size = s.heap.objs.size + 1 →
      (∀ c o, c ≠ z → c ≠ TO → c ≠ i1 → c ≠ i2 → s.heap.get? c = some o → g.get? c = some o) → Q (.ref s.heap.objs.size) { s with heap := g }) :
    wpAny (model prog w) A (Builtin.«zip.__next__» ⟨[.ref z], []⟩) (fun r s' => ∃ x, r = .done (.ret x) ∧ Q x s') E s := by
  show wpAny _ _ (field (.ref z) 2 >>= fun _ => _) _ _ _
  refine wpAny_bind (wpAny_field (x := .bool false) hz rfl rfl ?_)
  show wpAny _ _ (field (.ref z) 3 >>= fun _ => _) _ _ _
  refine wpAny_bind (wpAny_field (x := .ref TI) hz rfl rfl ?_)
  refine wpAny_bind (wpAny_seqItems hI rfl ?_)
  refine wpAny_bind (zr_free hz hf ?_)
  simp only [if_true]
  refine wpAny_bind (wpAny_rule ?_)
  refine wpAny_bind (wpAny_field (x := .ref TO) hz rfl rfl ?_)
  refine wpAny_bind (wpAny_setField_rec hz (by simp) fun g1 z1 b1 => ?_)
  replace z1 : ZRec g1 z TI TO .ellipsis f := z1
  refine wpAny_bind ?_
  simp only [List.zipIdx_cons, List.zipIdx_nil, List.forIn_nil, List.forIn_cons]
  refine wpAny_bind (wpAny_bind (wpAny_onRaise ?_))
  show wpAny _ _ (Builtin.SmallTypes.nextOf (.ref i1) >>= fun _ => _) _ _ _
  refine wpAny_bind (wpAny_nextOf_list_item (k1.extBut b1.extBut D.i1z) (hl1.extBut b1.extBut D.l1z) hu fun g2 j2 b2 => wpAny_pure ?_)
  have o2 : IsPair g2 TO p q := b2.extBut _ _ D.TOi1 (b1.extBut _ _ D.TOz hO)
  refine wpAny_bind (wpAny_seqItems o2 rfl ?_)
  refine wpAny_bind (wpAny_updateSeq_pair o2 fun g3 o3 b3 => ?_)
  replace o3 : IsPair g3 TO u q := o3
  refine wpAny_bind (wpAny_letGo (wpAny_pure ?_))
  refine wpAny_bind (wpAny_bind (wpAny_onRaise ?_))
  show wpAny _ _ (Builtin.SmallTypes.nextOf (.ref i2) >>= fun _ => _) _ _ _
  refine wpAny_bind (wpAny_nextOf_list_item (((k2.extBut b1.extBut D.i2z).extBut b2.extBut D.i12.symm).extBut b3.extBut D.TOi2.symm)
    (((hl2.extBut b1.extBut D.l2z).extBut b2.extBut D.l2i1).extBut b3.extBut D.l2TO) hv fun g4 j4 b4 => wpAny_pure ?_)
  have o4 : IsPair g4 TO u q := b4.extBut _ _ D.TOi2 o3
  refine wpAny_bind (wpAny_seqItems o4 rfl ?_)
  refine wpAny_bind (wpAny_updateSeq_pair o4 fun g5 o5 b5 => ?_)
  replace o5 : IsPair g5 TO u v := o5
  refine wpAny_bind (wpAny_letGo (wpAny_pure (wpAny_pure ?_)))
  refine wpAny_bind (wpAny_seqItems o5 rfl ?_)
  refine wpAny_bind (wpAny_newTuple ?_)
  have sz : g5.objs.size = s.heap.objs.size := by rw [b5.1, b4.1, b3.1, b2.1, b1.1]
  have z5 : ZRec g5 z TI TO .ellipsis f := b5.extBut _ _ D.TOz.symm (b4.extBut _ _ D.i2z.symm (b3.extBut _ _ D.TOz.symm (b2.extBut _ _ D.i1z.symm z1)))
  have kp : ∀ c o, c ≠ z → c ≠ TO → c ≠ i1 → c ≠ i2 → s.heap.get? c = some o → g5.get? c = some o := fun c o c1 c2 c3 c4 e =>
    b5.extBut _ _ c2 (b4.extBut _ _ c4 (b3.extBut _ _ c2 (b2.extBut _ _ c3 (b1.extBut _ _ c1 e))))
  have n1 : g5.IsListIter i1 a1 (m1 + 1) := ((j2.extBut b3.extBut D.TOi1.symm).extBut b4.extBut D.i12).extBut b5.extBut D.TOi1.symm
  have n2 : g5.IsListIter i2 a2 (m2 + 1) := j4.extBut b5.extBut D.TOi2.symm
  have zlt : z < g5.objs.size := Heap.lt_size z5
  show wpAny _ _ (Builtin.SmallTypes.ownedTupleHandOut (.ref z) (.ref g5.objs.size) >>= fun _ => _) _ _ _
  refine wpAny_bind ?_
  unfold Builtin.SmallTypes.ownedTupleHandOut
  have z6 : ZRec (g5.push { cls := .type "tuple", data := .seq #[u, v] }) z TI TO .ellipsis f := Heap.get?_push_of_some _ z5
  refine wpAny_bind (wpAny_setField_rec z6 (by simp) fun g7 z7 b7 => ?_)
  replace z7 : ZRec g7 z TI TO (rawInt g5.objs.size) f := z7
  refine wpAny_setField_rec z7 (by simp) fun g8 z8 b8 => ?_
  replace z8 : ZRec g8 z TI TO (rawInt g5.objs.size) false := z8
  have up : ∀ c o, c ≠ z → g5.get? c = some o → g8.get? c = some o := fun c o c1 e => b8.extBut _ _ c1 (b7.extBut _ _ c1 (Heap.get?_push_of_some _ e))
  have t8 : IsPair g8 g5.objs.size u v := b8.extBut _ _ (Nat.ne_of_gt zlt) (b7.extBut _ _ (Nat.ne_of_gt zlt) (Heap.get?_push_size _ rfl))
  have s8 : g8.objs.size = g5.objs.size + 1 := by rw [b8.1, b7.1, Heap.size_push]
  rw [sz] at z8 t8 s8
  refine wpAny_pure ⟨_, rfl, ?_⟩
  show Q (.ref g5.objs.size) _
  rw [sz]
  exact fin g8 z8 (up _ _ D.TOz o5) (n1.at fun o e => up _ o D.i1z e) (n2.at fun o e => up _ o D.i2z e) t8 s8 fun c o c1 c2 c3 c4 e => up c o c1 (kp c o c1 c2 c3 c4 e)
theorem zr_end {Q : Fin → Shared → Prop} (hh : A.handled = none) (D : ZipApart z TI TO i1 i2 a1 a2) (hz : ZRec s.heap z TI TO f0 f) (hf : f0 = .none ∨ ∃ T : Nat, f0 = rawInt T ∧ s.heap.get? T = none) (hI : IsPair s.heap TI (.ref i1) (.ref i2)) (hO : IsPair s.heap TO p q)
    (k1 : s.heap.IsListIter i1 a1 m1) (k2 : s.heap.IsListIter i2 a2 m2) (hl1 : s.heap.IsList a1 xs) (hl2 : s.heap.IsList a2 ys) (hend : xs[m1]? = none ∨ ys[m2]? = none)
    (fin : ∀ g e, (∀ c o, c ≠ z → c ≠ TO → c ≠ i1 → c ≠ i2 → s.heap.get? c = some o → g.get? c = some o) → (∃ o, g.get? e = some o ∧ o.cls = .type "StopIteration") → E (.ref e) { s with heap := g }) :
    wpAny (model prog w) A (Builtin.«zip.__next__» ⟨[.ref z], []⟩) Q E s := by
  show wpAny _ _ (field (.ref z) 2 >>= fun _ => _) _ _ _
  refine wpAny_bind (wpAny_field (x := .bool false) hz rfl rfl ?_)
  show wpAny _ _ (field (.ref z) 3 >>= fun _ => _) _ _ _
  refine wpAny_bind (wpAny_field (x := .ref TI) hz rfl rfl ?_)
  refine wpAny_bind (wpAny_seqItems hI rfl ?_)
  refine wpAny_bind (zr_free hz hf ?_)
  simp only [if_true]
  refine wpAny_bind (wpAny_rule ?_)
  refine wpAny_bind (wpAny_field (x := .ref TO) hz rfl rfl ?_)
  refine wpAny_bind (wpAny_setField_rec hz (by simp) fun g1 z1 b1 => ?_)
  replace z1 : ZRec g1 z TI TO .ellipsis f := z1
  refine wpAny_bind ?_
  simp only [List.zipIdx_cons, List.zipIdx_nil, List.forIn_nil, List.forIn_cons]
  refine wpAny_bind (wpAny_bind (wpAny_onRaise ?_))
  show wpAny _ _ (Builtin.SmallTypes.nextOf (.ref i1) >>= fun _ => _) _ _ _
  cases hx : xs[m1]? with
  | none =>
    refine wpAny_bind (wpAny_nextOf_list_end hh (k1.extBut b1.extBut D.i1z) (hl1.extBut b1.extBut D.l1z) hx fun g2 e b2 he => ?_)
    obtain ⟨oe, e1, e2⟩ := he
    have z2 : ZRec g2 z TI TO .ellipsis f := b2 _ _ D.i1z.symm z1
    have ne : e ≠ z := fun x => by subst x; rw [z2] at e1; cases e1; simp at e2
    refine wpAny_setField_rec z2 (by simp) fun g3 _ b3 => fin g3 e (fun c o c1 _ c3 _ x => b3.extBut _ _ c1 (b2 _ _ c3 (b1.extBut _ _ c1 x))) ⟨oe, b3.extBut _ _ ne e1, e2⟩
  | some x =>
    have hy : ys[m2]? = none := hend.resolve_left fun h => by rw [hx] at h; cases h
    refine wpAny_bind (wpAny_nextOf_list_item (k1.extBut b1.extBut D.i1z) (hl1.extBut b1.extBut D.l1z) hx fun g2 j2 b2 => wpAny_pure ?_)
    have o2 : IsPair g2 TO p q := b2.extBut _ _ D.TOi1 (b1.extBut _ _ D.TOz hO)
    refine wpAny_bind (wpAny_seqItems o2 rfl ?_)
    refine wpAny_bind (wpAny_updateSeq_pair o2 fun g3 o3 b3 => ?_)
    refine wpAny_bind (wpAny_letGo (wpAny_pure ?_))
    refine wpAny_bind (wpAny_bind (wpAny_onRaise ?_))
    show wpAny _ _ (Builtin.SmallTypes.nextOf (.ref i2) >>= fun _ => _) _ _ _
    refine wpAny_bind (wpAny_nextOf_list_end hh (((k2.extBut b1.extBut D.i2z).extBut b2.extBut D.i12.symm).extBut b3.extBut D.TOi2.symm)
      (((hl2.extBut b1.extBut D.l2z).extBut b2.extBut D.l2i1).extBut b3.extBut D.l2TO) hy fun g4 e b4 he => ?_)
    obtain ⟨oe, e1, e2⟩ := he
    have z4 : ZRec g4 z TI TO .ellipsis f := b4 _ _ D.i2z.symm (b3.extBut _ _ D.TOz.symm (b2.extBut _ _ D.i1z.symm z1))
    have ne : e ≠ z := fun x => by subst x; rw [z4] at e1; cases e1; simp at e2
    refine wpAny_setField_rec z4 (by simp) fun g5 _ b5 => fin g5 e (fun c o c1 c2 c3 c4 x => b5.extBut _ _ c1 (b4 _ _ c4 (b3.extBut _ _ c2 (b2.extBut _ _ c3 (b1.extBut _ _ c1 x))))) ⟨oe, b5.extBut _ _ ne e1, e2⟩
/-- the zip as an iterator within another: its turn, whatever it gave out -/
def ZSt2 (z TI TO i1 i2 a1 a2 : Addr) (i : Nat) (h : Heap) : Prop := (∃ f0 f, ZRec h z TI TO f0 f ∧ (f0 = .none ∨ ∃ T : Nat, f0 = rawInt T)) ∧ IsPair h TI (.ref i1) (.ref i2) ∧ (∃ x y, IsPair h TO x y) ∧ h.IsListIter i1 a1 i ∧ h.IsListIter i2 a2 i
theorem zs_item {i : Nat} {Q : Value → Shared → Prop} (D : ZipApart z TI TO i1 i2 a1 a2) (st : ZSt2 z TI TO i1 i2 a1 a2 i s.heap) (hl1 : s.heap.IsList a1 xs) (hl2 : s.heap.IsList a2 ys) (hu : xs[i]? = some u) (hv : ys[i]? = some v)
    (fin : ∀ g, ZSt2 z TI TO i1 i2 a1 a2 (i + 1) g → IsPair g s.heap.objs.size u v → g.objs.size = s.heap.objs.size + 1 → (∀ c o, c ≠ z → c ≠ TO → c ≠ i1 → c ≠ i2 → s.heap.get? c = some o → g.get? c = some o) → Q (.ref s.heap.objs.size) { s with heap := g }) :
    wpAny (model prog w) A (Builtin.SmallTypes.nextOf (.ref z)) Q E s := by
  obtain ⟨⟨f0, f, hz, hf⟩, hI, ⟨p, q, hO⟩, k1, k2⟩ := st
  have hT : s.TypeIs (.ref z) "zip" := ⟨_, hz, rfl⟩
  have via : wpAny (model prog w) A.in1 (Builtin.«zip.__next__» ⟨[.ref z], []⟩) (fun r s' => ∃ x, r = .done (.ret x) ∧ Q x s') E s := by
    by_cases hfree : f0 = .none ∨ ∃ T : Nat, f0 = rawInt T ∧ s.heap.get? T = none
    · exact zr_item D hz hfree hI hO k1 k2 hl1 hl2 hu hv fun g c1 c2 c3 c4 c5 c6 c7 => fin g ⟨⟨_, _, c1, .inr ⟨_, rfl⟩⟩, c7 _ _ D.TIz D.TITO D.TIi1 D.TIi2 hI, ⟨_, _, c2⟩, c3, c4⟩ c5 c6 c7
    · rcases hf with e | ⟨T, rfl⟩
      · exact absurd (.inl e) hfree
      · cases hg : s.heap.get? T with
        | none => exact absurd (.inr ⟨T, rfl, hg⟩) hfree
        | some o => exact zip_next_item_held D (T := T) hz hg hI k1 k2 hl1 hl2 hu hv fun g c1 c3 c4 c5 c6 c7 => fin g ⟨⟨_, _, c1, .inr ⟨_, rfl⟩⟩, c7 _ _ D.TIz D.TIi1 D.TIi2 hI, ⟨_, _, c7 _ _ D.TOz D.TOi1 D.TOi2 hO⟩, c3, c4⟩ c5 c6 fun c o h1 _ h3 h4 e => c7 c o h1 h3 h4 e
  unfold Builtin.SmallTypes.nextOf
  refine wpAny_bind (wpAny_callSpecial?_slot (name := Str.ofString "__next__") hT F.slot_zip_next (wpAny_call_entry F.slot_zip_next hT F.entry_zip_next (wpAny_mono via (fun r s' ⟨x, e, hq⟩ => ⟨x, e, ?_⟩) fun _ _ e => e) (F.args_zip_next_1 _)))
  exact wpAny_pure hq
theorem zs_end {i : Nat} {Q : Value → Shared → Prop} (hh : A.handled = none) (D : ZipApart z TI TO i1 i2 a1 a2) (st : ZSt2 z TI TO i1 i2 a1 a2 i s.heap) (hl1 : s.heap.IsList a1 xs) (hl2 : s.heap.IsList a2 ys) (hend : xs[i]? = none ∨ ys[i]? = none)
    (fin : ∀ g e, (∀ c o, c ≠ z → c ≠ TO → c ≠ i1 → c ≠ i2 → s.heap.get? c = some o → g.get? c = some o) → (∃ o, g.get? e = some o ∧ o.cls = .type "StopIteration") → E (.ref e) { s with heap := g }) :
    wpAny (model prog w) A (Builtin.SmallTypes.nextOf (.ref z)) Q E s := by
  obtain ⟨⟨f0, f, hz, hf⟩, hI, ⟨p, q, hO⟩, k1, k2⟩ := st
  have hT : s.TypeIs (.ref z) "zip" := ⟨_, hz, rfl⟩
  have via : ∀ Q' : Fin → Shared → Prop, wpAny (model prog w) A.in1 (Builtin.«zip.__next__» ⟨[.ref z], []⟩) Q' E s := fun Q' => by
    by_cases hfree : f0 = .none ∨ ∃ T : Nat, f0 = rawInt T ∧ s.heap.get? T = none
    · exact zr_end (show A.in1.handled = none from hh) D hz hfree hI hO k1 k2 hl1 hl2 hend fin
    · rcases hf with e | ⟨T, rfl⟩
      · exact absurd (.inl e) hfree
      · cases hg : s.heap.get? T with
        | none => exact absurd (.inr ⟨T, rfl, hg⟩) hfree
        | some o => exact zip_next_end_held (show A.in1.handled = none from hh) D (T := T) hz hg hI k1 k2 hl1 hl2 hend fun g e c7 => fin g e fun c o h1 _ h3 h4 e => c7 c o h1 h3 h4 e
  unfold Builtin.SmallTypes.nextOf
  exact wpAny_bind (wpAny_callSpecial?_slot (name := Str.ofString "__next__") hT F.slot_zip_next (wpAny_call_entry F.slot_zip_next hT F.entry_zip_next (via _) (F.args_zip_next_1 _)))
end
end MM

set_option linter.all false
set_option maxRecDepth 100000
namespace MM
open PySem PySem.Spec PyProof.Rows L2
section
variable {prog : Program} {w : World} {A : Around} {E : Value → Shared → Prop} {s : Shared} {e it : Addr} {i : Nat} {old : Value} {R : Value → Heap → Nat → Prop}
/-- a turn of enumerate over what may lay objects of its own -/
theorem en_item {Q : Value → Shared → Prop} (he : IsEnum s.heap e it i old) (hin : ∀ Q' : Value → Shared → Prop, (∀ x g tk, R x g tk → Q' x { s with heap := g, toks := tk }) → wpAny (model prog w) A (Builtin.SmallTypes.nextOf (.ref it)) Q' E s) (hRe : ∀ x g tk, R x g tk → IsEnum g e it i old)
    (fin : ∀ x g tk, R x g tk → ∀ k, IsEnumOut k e it ((i : Int) + 1) x g.objs.size → k.get? g.objs.size = some { cls := .type "tuple", data := .seq #[.int i tk, x] } → k.objs.size = g.objs.size + 1 → (∀ b o, b ≠ e → g.get? b = some o → k.get? b = some o) → Q (.ref g.objs.size) { s with heap := k, toks := tk + 1 }) :
    wpAny (model prog w) A (Builtin.«enumerate.__next__» ⟨[.ref e], []⟩) (fun r s' => ∃ v, r = .done (.ret v) ∧ Q v s') E s := by
  obtain ⟨hp, gg, dd, tk0, os⟩ := s
  show wpAny _ _ (field (.ref e) 2 >>= fun _ => _) _ _ _
  refine wpAny_bind (wpAny_field (x := .ref it) he rfl rfl ?_)
  refine wpAny_bind (hin _ fun x g1 tk hr => ?_)
  have e1 : IsEnum g1 e it i old := hRe x g1 tk hr
  show wpAny _ _ (field (.ref e) 3 >>= fun _ => _) _ _ ⟨g1, gg, dd, tk, os⟩
  refine wpAny_bind (wpAny_field (x := rawInt i) e1 rfl rfl ?_)
  show wpAny _ _ (field (.ref e) 4 >>= fun _ => _) _ _ ⟨g1, gg, dd, tk, os⟩
  refine wpAny_bind (wpAny_field (x := .none) e1 rfl rfl ?_)
  show wpAny _ _ (mkInt i >>= fun _ => _) _ _ ⟨g1, gg, dd, tk, os⟩
  refine wpAny_bind (wpAny_mkInt ?_)
  show wpAny _ _ (setField (.ref e) 3 (rawInt ((i : Int) + 1)) >>= fun _ => _) _ _ ⟨g1, gg, dd, tk + 1, os⟩
  refine wpAny_bind (wpAny_setField_rec e1 (by simp) fun g2 e2 b2 => ?_)
  replace b2 : Heap.SameBut e g1 g2 := b2
  replace e2 : IsEnum g2 e it ((i : Int) + 1) old := e2
  show wpAny _ _ (setField (.ref e) 4 .none >>= fun _ => _) _ _ ⟨g2, gg, dd, tk + 1, os⟩
  refine wpAny_bind (wpAny_setField_rec e2 (by simp) fun g3 e3 b3 => ?_)
  replace b3 : Heap.SameBut e g2 g3 := b3
  replace e3 : IsEnum g3 e it ((i : Int) + 1) old := e3
  show wpAny _ _ (newTuple [.int i tk, x] >>= fun _ => _) _ _ ⟨g3, gg, dd, tk + 1, os⟩
  refine wpAny_bind (wpAny_newTuple ?_)
  have e4 : IsEnum (g3.push { cls := .type "tuple", data := .seq #[.int i tk, x] }) e it ((i : Int) + 1) old := Heap.get?_push_of_some _ e3
  generalize hg4 : g3.push { cls := .type "tuple", data := .seq #[.int i tk, x] } = g4 at e4
  have sz : g3.objs.size = g1.objs.size := by rw [b3.1, b2.1]
  have el : e < g1.objs.size := Heap.lt_size e1
  have t4 : g4.get? g1.objs.size = some { cls := .type "tuple", data := .seq #[.int i tk, x] } := by rw [← hg4, ← sz]; exact Heap.get?_push_size _ rfl
  have s4 : g4.objs.size = g1.objs.size + 1 := by rw [← hg4, Heap.size_push, sz]
  have k4 : ∀ b o, b ≠ e → g1.get? b = some o → g4.get? b = some o := fun b o hbe hb => by
    rw [← hg4]; exact Heap.get?_push_of_some _ (b3.extBut b o hbe (b2.extBut b o hbe hb))
  show wpAny _ _ (Builtin.SmallTypes.ownedTupleIsFree (.ref e) >>= fun _ => _) _ _ ⟨g4, gg, dd, tk + 1, os⟩
  rw [sz]
  refine wpAny_bind ?_
  unfold Builtin.SmallTypes.ownedTupleIsFree
  refine wpAny_bind (wpAny_field (x := .none) e4 rfl rfl (wpAny_pure ?_))
  simp only [if_true]
  refine wpAny_bind (wpAny_rule ?_)
  refine wpAny_bind (wpAny_field (x := old) e4 rfl rfl ?_)
  refine wpAny_bind (wpAny_setField_rec e4 (by simp) fun g5 e5 b5 => ?_)
  replace b5 : Heap.SameBut e g4 g5 := b5
  replace e5 : IsEnum g5 e it ((i : Int) + 1) x := e5
  show wpAny _ _ (Builtin.SmallTypes.ownedTupleHandOut (.ref e) (.ref g1.objs.size) >>= fun _ => _) _ _ ⟨g5, gg, dd, tk + 1, os⟩
  refine wpAny_bind ?_
  unfold Builtin.SmallTypes.ownedTupleHandOut
  refine wpAny_bind (wpAny_setField_rec e5 (by simp) fun g6 e6 b6 => ?_)
  replace b6 : Heap.SameBut e g5 g6 := b6
  replace e6 : IsEnumOut g6 e it ((i : Int) + 1) x g1.objs.size := e6
  refine wpAny_setField_rec e6 (by simp) fun g7 e7 b7 => ?_
  replace b7 : Heap.SameBut e g6 g7 := b7
  replace e7 : IsEnumOut g7 e it ((i : Int) + 1) x g1.objs.size := e7
  refine wpAny_bind (wpAny_letGo (wpAny_pure ⟨_, rfl, fin x g1 tk hr g7 e7 ?_ ?_ ?_⟩))
  · exact b7.extBut _ _ (Nat.ne_of_gt el) (b6.extBut _ _ (Nat.ne_of_gt el) (b5.extBut _ _ (Nat.ne_of_gt el) t4))
  · rw [b7.1, b6.1, b5.1, s4]
  · exact fun b o hbe hb => b7.extBut b o hbe (b6.extBut b o hbe (b5.extBut b o hbe (k4 b o hbe hb)))
/-- the turns of enumerate(zip(a list, a list)) -/
def ItEZ (K : PySem.W.Frag) (a b : Addr) : It :=
  ⟨fun i H => ∃ (xs ys : List V) (x y : V), SqL K H a xs ∧ SqL K H b ys ∧ xs[i]? = some x ∧ ys[i]? = some y,
    fun i H v H' => ∃ T U x y, v = .ref U ∧ H T = none ∧ H U = none ∧ U ≠ T ∧ H' = upd (upd H T (.tup [x, y])) U (.tup [.int (i : Nat), .ref T]) ∧ (∀ xs, SqL K H a xs → xs[i]? = some x) ∧ ∀ ys, SqL K H b ys → ys[i]? = some y,
    fun i H => ∃ xs ys : List V, SqL K H a xs ∧ SqL K H b ys ∧ (xs.length ≤ i ∨ ys.length ≤ i)⟩
def EZSt (e z TI TO i1 i2 a1 a2 : Addr) (i : Nat) (h : Heap) : Prop := (∃ old, IsEnum h e z ((i : Nat) : Int) old) ∧ ZSt2 z TI TO i1 i2 a1 a2 i h
theorem turn_ez {P : Program} {w : World} {K : PySem.W.Frag} {elts : List Expr} {kk : Nat} {tpos : Pos} {a b e z TI TO i1 i2 : Addr} (D : ZipApart z TI TO i1 i2 a b) (hz : e ≠ z) (hI : e ≠ TI) (hO : e ≠ TO) (h1 : e ≠ i1) (h2 : e ≠ i2) :
    Turn P w K (.Tuple elts kk tpos) (ItEZ K a b) [e, z, TI, TO, i1, i2] e (EZSt e z TI TO i1 i2 a b) where
  mem := by simp
  obj := fun i h st c hc => by
    obtain ⟨⟨old, he⟩, ⟨f0, f, hz, _⟩, hTI, ⟨x, y, hTO⟩, ⟨o1, e1, _, d1⟩, ⟨o2, e2, _, d2⟩⟩ := st
    simp only [List.mem_cons, List.not_mem_nil, or_false] at hc
    rcases hc with rfl | rfl | rfl | rfl | rfl | rfl
    · exact ⟨_, he, fun v q => nomatch q⟩
    · exact ⟨_, hz, fun v q => nomatch q⟩
    · exact ⟨_, hTI, fun v q => nomatch q⟩
    · exact ⟨_, hTO, fun v q => nomatch q⟩
    · exact ⟨o1, e1, fun v q => by rw [d1] at q; cases q⟩
    · exact ⟨o2, e2, fun v q => by rw [d2] at q; cases q⟩
  keep := fun i h h' st k => by
    obtain ⟨⟨old, he⟩, ⟨f0, f, hz, hf⟩, hTI, ⟨x, y, hTO⟩, h1, h2⟩ := st
    exact ⟨⟨old, k e (by simp) _ he⟩, ⟨f0, f, k z (by simp) _ hz, hf⟩, k TI (by simp) _ hTI, ⟨x, y, k TO (by simp) _ hTO⟩, h1.at fun o q => k i1 (by simp) o q, h2.at fun o q => k i2 (by simp) o q⟩
  item := by
    intro X hP hw hK hc i pins s σ H E I hf st hg
    subst hP hw hK
    obtain ⟨⟨old, he⟩, zst⟩ := st
    obtain ⟨xs, ys, x, y, hqx, hqy, hx, hy⟩ := hg
    obtain ⟨its, rv, p, _⟩ := I.list hqx
    obtain ⟨its2, rv2, p2, _⟩ := I.list hqy
    obtain ⟨u, hu, ru⟩ := rv.get hx
    obtain ⟨u2, hu2, ru2⟩ := rv2.get hy
    have hel : e < s.heap.objs.size := Heap.lt_size he
    have hT : s.TypeIs (.ref e) "enumerate" := ⟨_, he, rfl⟩
    unfold pyNext
    refine wpAny_bind (wpAny_attempt (wpAny_callSpecial?_slot (name := Str.ofString "__next__") hT F.slot_enumerate_next (wpAny_call_entry F.slot_enumerate_next hT F.entry_enumerate_next
      (en_item (R := fun v g tk => v = .ref s.heap.objs.size ∧ tk = s.toks ∧ ZSt2 z TI TO i1 i2 a b (i + 1) g ∧ IsPair g s.heap.objs.size u u2 ∧ g.objs.size = s.heap.objs.size + 1 ∧ ∀ c o, c ≠ z → c ≠ TO → c ≠ i1 → c ≠ i2 → s.heap.get? c = some o → g.get? c = some o) he (fun Q' hQ' => ?_) (fun v g tk hr => ?_) (fun v g tk hr k hE hU hs hk => ?_)) (F.args_enumerate_next_1 _))))
    · exact zs_item D zst p.isList p2.isList (u := u) (v := u2) (by simpa using hu) (by simpa using hu2) fun g c1 c2 c3 c4 => hQ' _ g s.toks ⟨rfl, rfl, c1, c2, c3, c4⟩
    · exact hr.2.2.2.2.2 _ _ hz hO h1 h2 he
    · obtain ⟨rfl, rfl, zs2, hp1, hsz, hkp⟩ := hr
      refine wpAny_pure ⟨_, rfl, wpAny_letOwnedTupleGo_enum (s := { s with heap := k, toks := s.toks + 1 }) hE fun k2 hE2 sb => ?_⟩
      have ze : ∀ c ∈ [z, TI, TO, i1, i2], c ≠ e := fun c hc q => by
        subst q
        simp only [List.mem_cons, List.not_mem_nil, or_false] at hc
        rcases hc with q | q | q | q | q
        · exact hz q
        · exact hI q
        · exact hO q
        · exact h1 q
        · exact h2 q
      have up : ∀ c o, c ≠ e → g.get? c = some o → k2.get? c = some o := fun c o ce q => (sb.2 c ce).trans (hk c o ce q)
      have hUe : g.objs.size ≠ e := by rw [hsz]; exact Nat.ne_of_gt (Nat.lt_succ_of_lt hel)
      have hTe : s.heap.objs.size ≠ e := Nat.ne_of_gt hel
      have new1 : ObjOk X.prog X.w (upd H s.heap.objs.size (.tup [x, y])) g s.heap.objs.size (.tup [x, y]) :=
        ⟨by show 2 ≤ sizeLine; decide, [u, u2], .cons ru (.cons ru2 .nil), ⟨_, hp1, rfl, _, rfl⟩⟩
      have I1 : Inv X pins σ (upd H s.heap.objs.size (.tup [x, y])) { s with heap := g, toks := s.toks } :=
        I.turnedNew (t' := s.toks) (ch := [z, TI, TO, i1, i2]) (fun c o hb q => hkp c o (fun q' => hb (by simp [q'])) (fun q' => hb (by simp [q'])) (fun q' => hb (by simp [q'])) (fun q' => hb (by simp [q'])) q) (fun c hcm => hf c (List.mem_cons_of_mem _ hcm)) (Nat.le_refl _) new1
      have lt : ∀ c ∈ [e, z, TI, TO, i1, i2], c < s.heap.objs.size := fun c hcm => by
        obtain ⟨⟨f0, f, hz', _⟩, hTI, ⟨x', y', hTO⟩, ⟨o1, e1, _, d1⟩, ⟨o2, e2, _, d2⟩⟩ := zst
        simp only [List.mem_cons, List.not_mem_nil, or_false] at hcm
        rcases hcm with rfl | rfl | rfl | rfl | rfl | rfl
        · exact hel
        · exact Heap.lt_size hz'
        · exact Heap.lt_size hTI
        · exact Heap.lt_size hTO
        · exact Heap.lt_size e1
        · exact Heap.lt_size e2
      have hf1 : ∀ c ∈ [e], FpOk X pins (upd H s.heap.objs.size (.tup [x, y])) c := fun c hcm => by
        obtain rfl : c = e := by simpa using hcm
        obtain ⟨f0, f1⟩ := hf c (by simp)
        exact ⟨by rw [upd_ne (Nat.ne_of_lt hel)]; exact f0, f1⟩
      have hU2 : k2.get? g.objs.size = some { cls := .type "tuple", data := .seq #[.int i s.toks, .ref s.heap.objs.size] } := (sb.2 _ hUe).trans hU
      have new2 : ObjOk X.prog X.w (upd (upd H s.heap.objs.size (.tup [x, y])) g.objs.size (.tup [.int (i : Nat), .ref s.heap.objs.size])) k2 g.objs.size (.tup [.int (i : Nat), .ref s.heap.objs.size]) :=
        ⟨by show 2 ≤ sizeLine; decide, [.int i s.toks, .ref s.heap.objs.size], .cons ⟨_, rfl⟩ (.cons rfl .nil), ⟨_, hU2, rfl, _, rfl⟩⟩
      have I2 : Inv X pins σ (upd (upd H s.heap.objs.size (.tup [x, y])) g.objs.size (.tup [.int (i : Nat), .ref s.heap.objs.size])) { s with heap := k2, toks := s.toks + 1 } :=
        I1.turnedNew (t' := s.toks + 1) (ch := [e]) (fun c o hb q => up c o (fun z => hb (by simp [z])) q) hf1 (Nat.le_refl _) new2
      refine ⟨.ref g.objs.size, _, I2, rfl, ⟨_, _, x, y, rfl, I.hok.fresh (Nat.le_refl _), I.hok.fresh (by rw [hsz]; exact Nat.le_succ _), by rw [hsz]; exact Nat.ne_of_gt (Nat.lt_succ_self _), rfl, fun l hl => by rw [I.list_inj hl hqx]; exact hx, fun l hl => by rw [I.list_inj hl hqy]; exact hy⟩, ⟨⟨.ref s.heap.objs.size, ?_⟩, ?_⟩, fun c hcm => ?_⟩
      · have e1 : ((i + 1 : Nat) : Int) = (i : Int) + 1 := by omega
        rw [e1]; exact hE2
      · obtain ⟨⟨f0, f, q1, q2⟩, q3, ⟨x', y', q4⟩, q5, q6⟩ := zs2
        exact ⟨⟨f0, f, up _ _ (ze z (by simp)) q1, q2⟩, up _ _ (ze TI (by simp)) q3, ⟨x', y', up _ _ (ze TO (by simp)) q4⟩, q5.at fun o q => up _ o (ze i1 (by simp)) q, q6.at fun o q => up _ o (ze i2 (by simp)) q⟩
      · have hlt := lt c hcm
        rw [upd_ne (by rw [hsz]; exact Nat.ne_of_lt (Nat.lt_succ_of_lt hlt)), upd_ne (Nat.ne_of_lt hlt)]
        exact (hf c hcm).1
  done := by
    intro X hP hw hK hc i pins s σ H E I hf st hg
    subst hP hw hK
    obtain ⟨⟨old, he⟩, zst⟩ := st
    obtain ⟨xs, ys, hqx, hqy, hend⟩ := hg
    obtain ⟨its, rv, p, _⟩ := I.list hqx
    obtain ⟨its2, rv2, p2, _⟩ := I.list hqy
    have l1 := rv.length
    have l2 := rv2.length
    have hn : its.toArray[i]? = none ∨ its2.toArray[i]? = none := hend.imp (fun q => by simp; omega) fun q => by simp; omega
    have hT : s.TypeIs (.ref e) "enumerate" := ⟨_, he, rfl⟩
    have hh : X.A.in1.handled = none := I.ok.hd hc
    unfold pyNext
    refine wpAny_bind (wpAny_attempt (wpAny_callSpecial?_slot (name := Str.ofString "__next__") hT F.slot_enumerate_next (wpAny_call_entry F.slot_enumerate_next hT F.entry_enumerate_next ?_ (F.args_enumerate_next_1 _))))
    show wpAny _ _ (field (.ref e) 2 >>= fun _ => _) _ _ _
    refine wpAny_bind (wpAny_field (x := .ref z) he rfl rfl ?_)
    refine wpAny_bind (zs_end hh D zst p.isList p2.isList hn fun g x hk hx => ?_)
    obtain ⟨o, ho, hcl⟩ := hx
    refine wpAny_bind (wpAny_isInstance (T := "StopIteration") (b := true) ⟨o, ho, hcl⟩ isSubtype_stop ?_)
    exact wpAny_pure ⟨rfl, I.turnedL (t' := s.toks) (ch := [e, z, TI, TO, i1, i2]) (fun c o hb q => hk c o (fun q' => hb (by simp [q'])) (fun q' => hb (by simp [q'])) (fun q' => hb (by simp [q'])) (fun q' => hb (by simp [q'])) q) hf⟩
  self := fun A i s Q E st h => let ⟨⟨_, he⟩, _⟩ := st; wpAny_pyIter_enum he h
end
end MM

set_option linter.all false
set_option maxRecDepth 100000
namespace MM
open PySem PySem.Spec PyProof.Rows L2
/-- enumerate of an iterator that is a zip -/
theorem meets_enum_zip (z TI TO : Addr) : Meets (Builtin.«enumerate.__new__» ⟨[.type "enumerate", .ref z], []⟩) (fun _ R s => IsZip s.heap z TI TO .none ∧
    R (.ok (.ret (.ref s.heap.objs.size))) { s with heap := s.heap.push { cls := .type "enumerate", data := .fields #[.none, .bool false, .ref z, rawInt 0, .none, .none] } }) :=
  .of_wp fun prog w A R s h => by
    obtain ⟨hp, g, d, tk, os⟩ := s
    obtain ⟨hz, h⟩ := h
    have hsub := sub_enumerate
    have it : ∀ {A' : Around} {E : Value → Shared → Prop} {Q : Value → Shared → Prop}, Q (.ref z) ⟨hp, g, d, tk, os⟩ → wpAny (model prog w) A' (pyIter (.ref z)) Q E ⟨hp, g, d, tk, os⟩ := fun q => wpAny_pyIter_zip (s := ⟨hp, g, d, tk, os⟩) hz q
    wp_walk using it
    refine wpAny_stack_any fun st => wpAny_pure ?_
    split
    · rename_i c _ _ _ _ _
      cases (c == Value.type "enumerate")
      all_goals
        wp_walk using it
        exact ⟨_, rfl, h⟩
    · wp_walk using it
      exact ⟨_, rfl, h⟩
section
variable {prog : Program} {w : World} {A : Around} {E : Value → Shared → Prop} {s : Shared}
theorem call_enum_zip {z TI TO : Addr} {Q : Value → Shared → Prop} (hz : IsZip s.heap z TI TO .none) (h : ∀ g, IsEnum g s.heap.objs.size z 0 .none → (∀ b o, s.heap.get? b = some o → g.get? b = some o) → Q (.ref s.heap.objs.size) { s with heap := g }) :
    wpAny (model prog w) A (call (.type "enumerate") [.ref z]) Q E s := by
  refine callType_new F.called_enumerate (by decide) (F.typeCall_enumerate_1 _) (F.newCall_enumerate_1 _) (fun obj => F.args_object_init_2 obj _) F.entry_enumerate_new (meets_enum_zip z TI TO) ⟨hz, ?_⟩
  have e1 : IsEnum (s.heap.push { cls := .type "enumerate", data := .fields #[.none, .bool false, .ref z, rawInt 0, .none, .none] }) s.heap.objs.size z 0 .none := Heap.get?_push_size _ rfl
  exact ⟨⟨_, e1, rfl⟩, h _ e1 fun b o x => Heap.get?_push_of_some _ x⟩
end
def iEZ (K : PySem.W.Frag) (ta : TA) : TI := fun σ H R => ta σ H fun vs H1 => ∃ a b xs ys, vs = [.ref a, .ref b] ∧ SqL K H1 a xs ∧ SqL K H1 b ys ∧ R (ItEZ K a b) H1
theorem pi_ez {X : Cx} {e e2 : Expr} {ta : TA} {pe pz pos pos2 tpos : Pos} {elts : List Expr} {kk : Nat} (hm : X.mg "enumerate" = none) (hm2 : X.mg "zip" = none) (ha : PA X [e, e2] ta) (hg : Gl X "enumerate" := by rfl) (hg2 : Gl X "zip" := by rfl)
    (hs : starEach [e, e2] X.env = (false, eval e X.env) :: starEach [e2] X.env := by rfl) (hpl : (backTo pos2 (starEach [e2] X.env)).any (·.1) = false := by rfl)
    (hs1 : starEach [.Call (.Name "zip" pz) [e, e2] [] pos2] X.env = (false, eval (.Call (.Name "zip" pz) [e, e2] [] pos2) X.env) :: starEach [] X.env := by rfl) :
    PI X (.Tuple elts kk tpos) (.Call (.Name "enumerate" pe) [.Call (.Name "zip" pz) [e, e2] [] pos2] [] pos) (iEZ X.K ta) := by
  refine ⟨fun pins s σ H R I h => ?_⟩
  refine Call_ (ld_blt I hg hm boot_enumerate (PyProof.Rows.callWith_type1 ?_ hs1 rfl))
  rw [hs1]
  show wpAny _ _ (spliced ((false, eval _ X.env) :: backTo pos (starEach [] X.env))) _ _ s
  refine Calls.spliced_cons ?_
  refine Call_ (ld_blt I hg2 hm2 PyProof.Rows.boot_zip (PyProof.Rows.callWith_type1 (thn (ha.run pos2 pins s σ H _ I h) fun us s1 ⟨vs, H1, I1, r1, q1⟩ => ?_) hs hpl))
  obtain ⟨a, b, xs, ys, ex, hqx, hqy, q⟩ := q1
  subst ex
  cases r1 with
  | cons r rr =>
    cases rr with
    | cons r' rr =>
      cases rr
      cases r
      cases r'
      obtain ⟨its, rv, p1, _⟩ := I1.list hqx
      obtain ⟨its2, rv2, p2, _⟩ := I1.list hqy
      have la : a < s1.heap.objs.size := p1.lt
      have lb : b < s1.heap.objs.size := p2.lt
      refine call_zip_2 p1.isList p2.isList fun h' hz hTI hTO h1 h2 hsz hk => ?_
      refine Calls.spliced_nil ?_
      refine call_enum_zip (s := { s1 with heap := h' }) hz fun g he hkg => wpAny_pyIter_enum he ?_
      have I2 : Inv X pins σ H1 { s1 with heap := g } := I1.kept (t' := s1.toks) fun b o x => hkg b o (hk b o x)
      have ne : ∀ k, k < 5 → (h'.objs.size : Nat) ≠ s1.heap.objs.size + k := fun k hk5 => by rw [hsz]; omega
      refine ⟨h'.objs.size, [h'.objs.size, s1.heap.objs.size + 4, s1.heap.objs.size + 2, s1.heap.objs.size + 3, s1.heap.objs.size, s1.heap.objs.size + 1], _, _, H1, rfl, I2, turn_ez (PySem.W.ktu_apart s1.heap.objs.size a b la lb) (ne 4 (by omega)) (ne 2 (by omega)) (ne 3 (by omega)) (ne 0 (by omega)) (ne 1 (by omega)),
        ⟨⟨.none, he⟩, ⟨.none, false, hkg _ _ hz, .inl rfl⟩, hkg _ _ hTI, ⟨_, _, hkg _ _ hTO⟩, h1.at fun o x => hkg _ o x, h2.at fun o x => hkg _ o x⟩, fun c hcm => ?_, q⟩
      have hle : s1.heap.objs.size ≤ c := by
        simp only [List.mem_cons, List.not_mem_nil, or_false] at hcm
        rcases hcm with z | z | z | z | z | z
        · rw [z, hsz]; exact Nat.le_add_right _ _
        · rw [z]; exact Nat.le_add_right _ _
        · rw [z]; exact Nat.le_add_right _ _
        · rw [z]; exact Nat.le_add_right _ _
        · rw [z]; exact Nat.le_refl _
        · rw [z]; exact Nat.le_add_right _ _
      exact I1.fpOk hle (I1.hok.fresh hle)
end MM

set_option linter.all false
set_option maxRecDepth 100000
namespace MM
open PySem PySem.Spec PyProof.Rows L2
/-! ### t[::-1], a tuple, a text -/
section
variable {prog : Program} {w : World} {A : Around} {E : Value → Shared → Prop} {s : Shared}
theorem applied_back {sl : Addr} {n : Nat} {t : Tok} {Q : Int × Int × Nat → Shared → Prop} (hs : s.heap.IsSliceOf sl .none .none (.int (-1) t)) (h : Q ((n : Int) - 1, -1, n) s) : wpAny (model prog w) A (Builtin.Slice.sliceApplied (.ref sl) (pure (n : Int))) Q E s := by
  obtain ⟨os, hos, hcs, hds⟩ := id hs
  unfold Builtin.Slice.sliceApplied Builtin.Slice.sliceFields
  refine wpAny_bind (wpAny_bind (wpAny_field hos hds (x := .none) rfl (wpAny_bind (wpAny_field hos hds (x := .none) rfl (wpAny_bind (wpAny_field hos hds (x := .int (-1) t) rfl (wpAny_pure ?_)))))))
  refine wpAny_bind (HT.slicePart_ (.int (-1) t) ?_)
  show wpAny _ _ (if ((-1 : Int) == 0) = true then _ else _) _ _ s
  rw [if_neg (by decide)]
  refine wpAny_bind (HT.slicePart_ .none (wpAny_bind (HT.slicePart_ .none (wpAny_bind (wpAny_pure ?_)))))
  have e1 : Builtin.Slice.sliceAdjust none none (-1) (n : Int) = ((n : Int) - 1, -1) := rfl
  show wpAny _ _ (match Builtin.Slice.sliceAdjust none none (-1) (n : Int) with | (lo, hi) => pure (lo, (-1 : Int), Builtin.Slice.slicePlaces lo hi (-1))) _ _ s
  rw [e1]
  have e2 : Builtin.Slice.slicePlaces ((n : Int) - 1) (-1) (-1) = n := by
    unfold Builtin.Slice.slicePlaces
    have a : ¬ ((-1 : Int) > 0) := by omega
    simp only [a, if_false]
    rw [show (- -1 : Int) = 1 by decide, Int.ediv_one]
    split <;> omega
  show wpAny _ _ (pure ((n : Int) - 1, (-1 : Int), Builtin.Slice.slicePlaces ((n : Int) - 1) (-1) (-1))) _ _ s
  rw [e2]
  exact wpAny_pure h
theorem fm_congr {α β : Type} {f g : α → Option β} : ∀ {l : List α}, (∀ m ∈ l, f m = g m) → l.filterMap f = l.filterMap g
  | [], _ => rfl
  | a :: l, h => by
    rw [List.filterMap_cons, List.filterMap_cons, h a (by simp), fm_congr fun m hm => h m (by simp [hm])]
theorem pick_back (xs : Array Value) : ((List.range xs.size).filterMap fun (m : Nat) => xs[((xs.size : Int) - 1 + (m : Int) * -1).toNat]?).toArray = xs.toList.reverse.toArray := by
  have e : ((List.range xs.size).filterMap fun (m : Nat) => xs[((xs.size : Int) - 1 + (m : Int) * -1).toNat]?) = ((List.range xs.size).map fun m => xs.size - 1 - m).filterMap (xs[·]?) := by
    rw [List.filterMap_map]
    refine fm_congr fun m hm => ?_
    have := List.mem_range.mp hm
    show xs[((xs.size : Int) - 1 + (m : Int) * -1).toNat]? = xs[xs.size - 1 - m]?
    rw [show ((xs.size : Int) - 1 + (m : Int) * -1).toNat = xs.size - 1 - m by omega]
  rw [e, PySem.W.krv_range, List.filterMap_reverse, PySem.W.krv_all]
theorem tuple_back {t sl : Addr} {items : Array Value} {u : Tok} {Q : Value → Shared → Prop} (ht : IsTup s.heap t items) (hs : s.heap.IsSliceOf sl .none .none (.int (-1) u))
    (h : Q (.ref s.heap.objs.size) { s with heap := s.heap.push { cls := .type "tuple", data := .seq items.toList.reverse.toArray } }) (hsz : items.size ≤ sizeLine) : wpAny (model prog w) A (getItem (.ref t) (.ref sl)) Q E s := by
  have hok : sizeOk (.seq items.toList.reverse.toArray) := by
    show items.toList.reverse.toArray.size ≤ sizeLine
    simpa using hsz
  obtain ⟨os, hos, hcs, hds⟩ := id hs
  have hT : s.TypeIs (.ref sl) "slice" := ⟨os, hos, hcs⟩
  unfold getItem
  try with_reducible refine wpAny_holding ?_
  first | refine wpAny_bind (wpAny_pure ?_) | skip
  refine wpAny_bind (wpAny_sequenceKey ht.typeIs (by decide) ?_)
  refine wpAny_bind (wpAny_callSpecial?_slot (name := Str.ofString "__getitem__") ht.typeIs PyProof.Rows.slot_tuple_getitem (wpAny_call_entry PyProof.Rows.slot_tuple_getitem ht.typeIs entry_tuple_getitem ?_ (args_tuple_getitem _ _)))
  show wpAny _ _ (Builtin.Tuple.tupleItemsOf (.ref t) >>= fun _ => _) _ _ s
  refine wpAny_bind (tupleItemsOf_ ht ?_)
  refine wpAny_bind (wpAny_typeOf hT ?_)
  rw [if_pos (by decide)]
  refine wpAny_bind (applied_back hs ?_)
  show wpAny _ _ (if (((items.size : Int) - 1 == 0 && (-1 : Int) == 1 && items.size == items.size) = true) then _ else _) _ _ s
  rw [if_neg (by rw [show ((-1 : Int) == 1) = false from rfl, Bool.and_false, Bool.false_and]; exact Bool.false_ne_true), pick_back]
  first
    | exact wpAny_bind (m := Builtin.Tuple.tupleExact _) (wpAny_newObj_type (wpAny_pure ⟨_, rfl, wpAny_pure h⟩) hok)
    | exact wpAny_bind (m := Builtin.Tuple.tupleExact _) (wpAny_newObj_type (wpAny_bind (wpAny_pure (wpAny_pure ⟨_, rfl, wpAny_pure h⟩))) hok)
    | exact wpAny_bind (wpAny_bind (m := Builtin.Tuple.tupleExact _) (wpAny_newObj_type (wpAny_pure (wpAny_pure ⟨_, rfl, wpAny_pure h⟩)) hok))
    | exact wpAny_bind (wpAny_bind (m := Builtin.Tuple.tupleExact _) (wpAny_newObj_type (wpAny_pure ⟨_, rfl, wpAny_pure h⟩) hok))
theorem text_pick (x : Str) (t : Tok) (u : Tok) : sliceMade x t none none (some (-1, u)) = .str ⟨x.cps.toList.reverse.toArray⟩ := by
  unfold sliceMade slicePicked
  rw [if_neg (by
    show ¬ (((-1 : Int) == 1 && _) = true)
    rw [show ((-1 : Int) == 1) = false from rfl, Bool.false_and]; exact Bool.false_ne_true)]
  have e : Builtin.Str.strSliceIndices none none (-1) x.length = (List.range x.length).map fun k => x.length - 1 - k := by
    show sliceRange ((x.length : Int) - 1) (-1) (-1) = _
    exact PySem.W.krv_sliceRange x.length
  show Made.str ⟨((Builtin.Str.strSliceIndices none none (-1) x.length).filterMap (x.cps[·]?)).toArray⟩ = _
  rw [e, PySem.W.krv_range, List.filterMap_reverse]
  have : (List.range x.length).filterMap (x.cps[·]?) = x.cps.toList := PySem.W.krv_all x.cps
  rw [this]
end
def tRevS (K : PySem.W.Frag) (te : TE) : TE := fun σ H Q => te σ H fun x H1 => (∃ z, x = .str z ∧ z.length ≤ sizeLine ∧ Q (.str ⟨z.cps.toList.reverse.toArray⟩) H1) ∨ ∃ a xs, x = .ref a ∧ SqT K H1 a xs ∧ ∀ p, H1 p = none → Q (.ref p) (upd H1 p (.tup xs.reverse))
theorem pe_revS {X : Cx} {e : Expr} {te : TE} {k : Nat} {p1 p2 p3 pos : Pos} (he : PE X e te) : PE X (.Subscript e (.Slice none none (some (.UnaryOp .USub (.Constant (.int 1) k p1) p2)) p3) pos) (tRevS X.K te) := by
  refine ⟨fun pins s σ H Q I h => ?_⟩
  refine Subscript_ (thn (he.run pins s σ H _ I h) fun v s1 ⟨x, H1, I1, r1, q1⟩ => ?_)
  have hst : PO X (some (.UnaryOp .USub (.Constant (.int 1) k p1) p2)) (tPart (tUn (rU fun i => .int (-i)) (tC (.int 1)))) := po_some (pe_un un_neg pe_int)
  refine wpAny_Slice (thn (po_none.run pins s1 σ H1 (fun o G => o = none ∧ G = H1) I1 ⟨rfl, rfl⟩) fun vl s2 ⟨l, H2, I2, pl, el, e2⟩ => ?_)
  subst el e2
  refine thn (po_none.run pins s2 σ H2 (fun o G => o = none ∧ G = H2) I2 ⟨rfl, rfl⟩) fun vu s3 ⟨u, H3, I3, pu, eu, e3⟩ => ?_
  subst eu e3
  refine thn (hst.run pins s3 σ H3 (fun o G => o = some (-1) ∧ G = H3) I3 ⟨1, rfl, -1, rfl, rfl, rfl⟩) fun vs s4 ⟨o, H4, I4, ps, eo, e4⟩ => ?_
  subst eo e4
  have I5 : Inv X pins σ H4 { s4 with heap := s4.heap.push { cls := .type "slice", data := .fields #[vl, vu, vs] } } := I4.kept (t' := s4.toks) fun b ob q => Heap.get?_push_of_some _ q
  cases pl
  cases pu
  cases ps with
  | int _ tk =>
    rcases q1 with ⟨z, ex, hz, q⟩ | ⟨a, xs, ex, hx, q⟩
    · subst ex
      obtain ⟨tz, rfl⟩ := r1
      refine tail_any (ops := [.str z tz, .ref s4.heap.objs.size]) (typeIs_str _ z tz) slot_str_getitem.lookup ?_ (by with_unfolding_all rfl)
      refine wpAny_getItem_str_slice (l := none) (u := none) (st := some (-1, tk)) ⟨_, Heap.get?_push_size _ rfl, rfl, rfl⟩ rfl ?_
      rw [text_pick]
      refine ⟨?_, .str ⟨z.cps.toList.reverse.toArray⟩, H4, I5.tok _, ⟨_, rfl⟩, q⟩
      show z.cps.toList.reverse.toArray.size ≤ sizeLine
      have : z.cps.size ≤ sizeLine := hz
      simpa using this
    · subst ex
      cases r1
      obtain ⟨its, r, ht, hz⟩ := I5.tuple hx
      have hlen := r.length
      refine tail_any (ops := [.ref a, .ref s4.heap.objs.size]) (T := "tuple") ht.typeIs (PyProof.Rows.slot_tuple_getitem.lookup) ?_ (by with_unfolding_all rfl)
      refine tuple_back ht (Heap.IsSliceOf.new _ .none .none (.int (-1) tk)) ?_ (by rw [List.size_toArray]; omega)
      refine ⟨.ref _, _, I5.laid (t' := s4.toks) (o := .tup xs.reverse) (fun b ob q => Heap.get?_push_of_some _ q) (Nat.le_refl _) ?_, rfl, q _ (I5.hok.fresh (Nat.le_refl _))⟩
      exact ⟨by rw [List.length_reverse]; exact hz, _, r.reverse, ⟨_, Heap.get?_push_size _ rfl, rfl, _, rfl⟩⟩
end MM

set_option linter.all false
set_option maxRecDepth 100000
namespace MM
open PySem L2

section
variable {X : Cx} {cl : Str → Option Addr} {a b e kx vx tg iter : Expr} {ifs : List Expr} {scope : Scope} {own : List (Str × Nat)} {pos pos2 : Pos} {m ma mb ek ev : ME} {mi : MA} {g : D → DL → Option DL} {t : MT} {Ts : List Nat}
/-! ### t[::-1] -/
def eRevS (m : ME) : ME := fun δ ah => (m δ ah).bind fun p => match p.1 with
  | .str z => if z.length ≤ 100000 then some (.str ⟨z.cps.toList.reverse.toArray⟩, p.2) else none
  | .tup l => some (.tup l.reverse, p.2)
  | _ => none
theorem re_revS {k : Nat} {p1 p2 p3 : Pos} (h : RE X cl a m) : RE X cl (.Subscript a (.Slice none none (some (.UnaryOp .USub (.Constant (.int 1) k p1) p2)) p3) pos) (eRevS m) := fun δ s σ d ah' Q h' ok sv q => by
  obtain ⟨⟨z, za⟩, h1, h2⟩ := Option.bind_eq_some_iff.mp h'
  refine WE.of (pe_revS peW) (h δ s σ _ _ _ h1 ok sv fun s1 v l1 e1 d1 => ?_)
  cases z with
  | str x =>
    simp only at h2
    split at h2
    · rename_i hz
      obtain ⟨rfl, rfl⟩ := Prod.mk.inj (Option.some.inj h2)
      cases d1
      exact .inl ⟨x, rfl, Nat.le_trans hz line100k, q s1 _ l1 e1 (.str _)⟩
    · cases h2
  | tup l =>
    obtain ⟨rfl, rfl⟩ := Prod.mk.inj (Option.some.inj h2)
    obtain ⟨a, vs, rfl, hr, hs⟩ := tup_view d1
    refine .inr ⟨a, vs, rfl, hr, fun p hp => ?_⟩
    have l2 := le_new l1.ok hp (.tup vs.reverse)
    exact q (s1.up p (.tup vs.reverse)) _ (l1.trans l2) e1 (.tup (.inl upd_same) (fun a => (l1.ok.nav hp) a) (hs.reverse.le l2))
  | _ => cases h2
/-! ### enumerate(zip(a list, a list)) -/
def gLs : D → Option (List D)
  | .lst l => some l
  | .scr l => some l
  | _ => none
theorem gLs_src {G : Gx} {s : S} {d : D} {v : V} {l : List D} (h : gLs d = some l) (x : DV G s d v) : ∃ a vs, v = .ref a ∧ DVs G s l vs ∧ ∀ s2, Gr s s2 → SqL G.K s2.H a vs := by
  cases d with
  | lst m => cases h; exact lst_src (.inl x)
  | scr m => cases h; exact lst_src (.inr x)
  | _ => cases h
def iEZM (a b : ME) : MA := fun δ ah => (a δ ah).bind fun p => (b δ p.2).bind fun q => (gLs p.1).bind fun l => (gLs q.1).map fun m => (enumD 0 (zipD l m), q.2)
theorem ri_ez {elts : List Expr} {kk : Nat} {tpos pe pz : Pos} (hm : X.mg "enumerate" = none) (hm2 : X.mg "zip" = none) (h : RE X cl a ma) (hb : RE X cl b mb) (hg : Gl X "enumerate" := by rfl) (hg2 : Gl X "zip" := by rfl)
    (hs : starEach [a, b] X.env = (false, eval a X.env) :: starEach [b] X.env := by rfl) (hs2 : starEach [b] X.env = (false, eval b X.env) :: starEach [] X.env := by rfl) (hpl : (backTo pos2 (starEach [b] X.env)).any (·.1) = false := by rfl)
    (hs1 : starEach [.Call (.Name "zip" pz) [a, b] [] pos2] X.env = (false, eval (.Call (.Name "zip" pz) [a, b] [] pos2) X.env) :: starEach [] X.env := by rfl) :
    RI X cl (.Tuple elts kk tpos) (.Call (.Name "enumerate" pe) [.Call (.Name "zip" pz) [a, b] [] pos2] [] pos) (iEZM ma mb) := fun δ s σ ds ah' R h' ok sv q => by
  obtain ⟨⟨z, za⟩, h1, h2⟩ := Option.bind_eq_some_iff.mp h'
  obtain ⟨⟨y, ya⟩, h5, h6⟩ := Option.bind_eq_some_iff.mp h2
  obtain ⟨l, h7, h8⟩ := Option.bind_eq_some_iff.mp h6
  obtain ⟨m, h9, h10⟩ := Option.map_eq_some_iff.mp h8
  obtain ⟨rfl, rfl⟩ := Prod.mk.inj h10
  refine ⟨_, pi_ez hm hm2 (pa_cons peW (pa_cons peW pa_nil hs2) hs) hg hg2 hs hpl hs1, h δ s σ _ _ _ h1 ok sv fun s1 v l1 e1 d1 => ?_⟩
  refine hb δ s1 σ _ _ _ (by rw [e1]; exact h5) l1.ok (sv.le l1) fun s2 w l2 e2 d2 => ?_
  obtain ⟨u1, xs, rfl, k1, q1⟩ := gLs_src h7 (d1.le l2)
  obtain ⟨u2, ys, rfl, k2, q2⟩ := gLs_src h9 d2
  refine ⟨u1, u2, xs, ys, rfl, q1 s2 Gr.refl, q2 s2 Gr.refl, q s2 _ (l1.trans l2) e2 fun s3 g ok3 => ⟨fun i hi => ?_, ⟨xs, ys, q1 s3 g, q2 s3 g, ?_⟩, fun i d x H' hd hy => ?_⟩⟩
  · rw [enumD_len, zipD_len] at hi
    obtain ⟨x, hx⟩ := k1.some_at (i := i) (by omega)
    obtain ⟨y, hy⟩ := k2.some_at (i := i) (by omega)
    exact ⟨xs, ys, x, y, q1 s3 g, q2 s3 g, hx, hy⟩
  · rw [enumD_len, zipD_len, k1.len, k2.len]
    omega
  · obtain ⟨T, U, x', y', rfl, hT, hU, hne, eH, f1, f2⟩ := hy
    obtain ⟨d0, e0, rfl⟩ := enumD_at hd
    obtain ⟨d1, d2, e3, e4, rfl⟩ := zipD_at e0
    rw [Nat.zero_add]
    obtain ⟨l4, dv4⟩ := pair_yield ok3 hT rfl ((k1.at e3 (f1 xs (q1 s3 g))).mono g) ((k2.at e4 (f2 ys (q2 s3 g))).mono g)
    have hU' : ({ s3 with H := upd s3.H T (.tup [x', y']) } : S).H U = none := by
      show upd s3.H T _ U = none
      rw [upd_ne hne]
      exact hU
    obtain ⟨l5, dv5⟩ := pair_yield l4.ok hU' eH (.int (i : Nat)) dv4
    exact ⟨l4.trans l5, dv5⟩
/-! ### {k: v for target in iter if ..} -/
def dcGo (n : Nat) (g : D → DL → Option DL) (t : MT) (ek ev : ME) (δ : DL) : List D → AH → Option AH
  | [] => fun ah => some ah
  | d :: r => fun ah => (g d δ).bind fun δ1 => (t δ1 ah).bind fun p => if p.1 = true then (ek δ1 p.2).bind fun x => (keyOf x.1).bind fun k => (ev δ1 x.2).bind fun y => (dicAt y.2 n).bind fun l =>
      if l.length < 100000 then dcGo n g t ek ev δ r (y.2.set n (.dic (putD l k y.1))) else none
    else dcGo n g t ek ev δ r p.2
def eDComp (mi : MA) (g : D → DL → Option DL) (t : MT) (ek ev : ME) (vs : List Nat) : ME := fun δ ah => (mi δ ah).bind fun p => (dcGo p.2.length g t ek ev (wipeD δ vs) p.1 (p.2 ++ [.dic []])).map fun ah' => (.ptr p.2.length, ah')
theorem re_dcomp {vs : List Nat} (hv : own.map (·.2) = vs) (hc : X.calm = true) (hN : X.N.Nodup) (bk : BlkOk X.N X.env.scope scope own) (hi : RI X cl tg iter mi) (hg : ∀ s H C cl' fp, RG (BCx X scope s H C cl' fp) cl tg Ts g) (ht : ∀ s H C cl' fp, RTs (BCx X scope s H C cl' fp) cl ifs t)
    (hk : ∀ s H C cl' fp, RE (BCx X scope s H C cl' fp) cl kx ek) (he : ∀ s H C cl' fp, RE (BCx X scope s H C cl' fp) cl vx ev) (hsub : ∀ i ∈ Ts, i ∈ vs)
    (hs : ∀ x, foldedSetIterable iter X.env x = pure x := by intro _; rfl) : RE X cl (.DictComp kx vx [⟨tg, iter, ifs, 0⟩] scope pos) (eDComp mi g t ek ev vs) := fun δ s σ d ah' Q h ok sv q => by
  subst hv
  obtain ⟨⟨items, ah1⟩, h1, h2⟩ := Option.bind_eq_some_iff.mp h
  obtain ⟨ah2, h3, h4⟩ := Option.map_eq_some_iff.mp h2
  obtain ⟨rfl, rfl⟩ := Prod.mk.inj h4
  refine WE.of (t := tDc (wI X tg iter) (uG X scope tg) (uT X scope ifs) (uE X scope kx) (uE X scope vx) (own.map (·.2))) (pe_dc hc hN pi_any bk pg_u pts_u pe_u pe_u hs) ?_
  refine hi δ s σ items ah1 _ h1 ok sv fun s1 J l1 e1 drv Dl hD => ?_
  have la : Le (gx X cl) s1 (s1.add Dl (.dic []) (.dK [])) := le_add l1.ok hD ⟨[], upd_same, rfl, .nil⟩
  have hDn : (s1.add Dl (.dic []) (.dK [])).ι[ah1.length]? = some Dl := by
    show (s1.ι ++ [Dl])[ah1.length]? = some Dl
    rw [← e1, ← l1.ok.len]
    exact List.getElem?_concat_length
  refine ⟨fun i m H => ∃ s2, s2.H = H ∧ i + m = items.length ∧ Le (gx X cl) (s1.add Dl (.dic []) (.dK [])) s2 ∧ dcGo ah1.length g t ek ev (wipeD δ (own.map (·.2))) (items.drop i) s2.ah = some ah2,
    ⟨items.length, _, rfl, Nat.zero_add _, Le.refl la.ok, by rw [List.drop_zero]; show dcGo _ _ _ _ _ _ items (s1.ah ++ [.dic []]) = _; rw [e1]; exact h3⟩, fun i m H hW => ?_⟩
  obtain ⟨s2, rfl, him, l2, hgo⟩ := hW
  obtain ⟨d1, d2, d3⟩ := drv s2 (la.trans l2).gr l2.ok
  by_cases hi : i < items.length
  · refine .inr ⟨d1 i hi, fun H' => ∃ s2, s2.H = H' ∧ (i + 1) + (m - 1) = items.length ∧ Le (gx X cl) (s1.add Dl (.dic []) (.dK [])) s2 ∧ dcGo ah1.length g t ek ev (wipeD δ (own.map (·.2))) (items.drop (i + 1)) s2.ah = some ah2, fun H' hN => ⟨m - 1, by omega, hN⟩, fun x H' hy => ?_⟩
    obtain ⟨l3, dv3⟩ := d3 i items[i] x H' (List.getElem?_eq_getElem hi) hy
    rw [List.drop_eq_getElem_cons hi] at hgo
    obtain ⟨δ1, k1, k2⟩ := Option.bind_eq_some_iff.mp hgo
    obtain ⟨⟨b, ahb⟩, k3, k4⟩ := Option.bind_eq_some_iff.mp k2
    have sv3 : SV (gx X cl) { s2 with H := H' } (wipeD δ (own.map (·.2))) (L2.wipe σ (own.map (·.2))) := (((sv.le l1).le la).le (l2.trans l3)).wipe _
    intro sa Ha Ca cla fpa
    refine hg sa Ha Ca cla fpa items[i] x (wipeD δ (own.map (·.2))) δ1 { s2 with H := H' } (L2.wipe σ (own.map (·.2))) _ k1 l3.ok dv3 sv3 ?_
    intro σ2 sv4 hl4 hk4
    refine ⟨by rw [wipe_same hl4 hk4 hsub, wipe_wipe], ?_⟩
    intro sb Hb Cb clb fpb
    refine ht sb Hb Cb clb fpb δ1 { s2 with H := H' } σ2 b ahb _ k3 l3.ok sv4 fun s4 l4 e4 => ?_
    have l24 := l2.trans (l3.trans l4)
    cases b with
    | true =>
      rw [if_pos rfl]
      rw [if_pos rfl] at k4
      obtain ⟨⟨y, ahy⟩, k5, k6⟩ := Option.bind_eq_some_iff.mp k4
      obtain ⟨key, k7, k8⟩ := Option.bind_eq_some_iff.mp k6
      obtain ⟨⟨w, ahw⟩, k9, k10⟩ := Option.bind_eq_some_iff.mp k8
      obtain ⟨l, k11, k12⟩ := Option.bind_eq_some_iff.mp k10
      split at k12
      · rename_i hlen
        intro sc Hc Cc clc fpc
        refine hk sc Hc Cc clc fpc δ1 s4 σ2 y ahy _ (by rw [e4]; exact k5) l4.ok (sv4.le l4) fun s5 vk l5 e5 dv5 => ?_
        intro sd Hd Cd cld fpd
        refine he sd Hd Cd cld fpd δ1 s5 σ2 w ahw _ (by rw [e5]; exact k9) l5.ok ((sv4.le l4).le l5) fun s6 vv l6 e6 dv6 => ?_
        have l26 := l24.trans (l5.trans l6)
        have ea := l26.pre _ _ hDn
        have ei := dicAt_some k11
        rw [← show s6.ah = ahw from e6] at ei
        obtain ⟨kvs, hH, hkk, hd⟩ := l26.ok.obj _ _ _ ea ei
        obtain ⟨w1, w2⟩ := putD_v (k := key) dv6 hkk hd
        refine ⟨kvs, key, keyOf_v dv5 k7, hH, ?_, ?_⟩
        · rw [map_len hkk]
          exact Nat.lt_of_lt_of_le hlen line100k
        · have gp := gr_put ea ei (by intro q; cases q) (.dic (putD l key w)) (.dK (putK kvs key vv))
          have l7 : Le (gx X cl) s6 (s6.put ah1.length Dl (.dic (putD l key w)) (.dK (putK kvs key vv))) := le_put l26.ok ea ei (by intro q; cases q) ⟨_, upd_same, w1, w2.mono gp⟩
          exact ⟨_, rfl, by omega, l26.trans l7, by show dcGo _ _ _ _ _ _ _ (s6.ah.set _ _) = _; rw [show s6.ah = ahw from e6]; exact k12⟩
      · cases k12
    | false =>
      rw [if_neg Bool.false_ne_true]
      rw [if_neg Bool.false_ne_true] at k4
      exact ⟨s4, rfl, by omega, l24, by rw [e4]; exact k4⟩
  · have hi' : i = items.length := by omega
    subst hi'
    rw [List.drop_length] at hgo
    exact .inl ⟨d2, q s2 _ (l1.trans (la.trans l2)) (Option.some.inj hgo) (.ptr (l2.pre _ _ hDn))⟩
end
end MM

set_option linter.all false
set_option maxRecDepth 100000
namespace MM
open PySem L2

/-! ### a def and its mirror, for callers -/
def Good (P : Program) (w : World) (K : PySem.W.Frag) (mg : Str → Option Value) (base : Heap) (cl : Str → Option Addr) (k : Nat) (a : Addr) (mf : MF) (n : Nat) : Prop :=
  ∃ fd ps, FnOk P w K mg base CX0 k a fd ps (spM K cl mf n) ∧ Binds K fd ps [] ∧ PySem.W.keepIn K (.ref a) = true
section
variable {P : Program} {w : World} {K : PySem.W.Frag} {mg : Str → Option Value} {base : Heap}
theorem fnD_of {x qual : Str} {params : Arguments} {body : List Stmt} {scope : Scope} {f : Addr} {fd : FuncData} {N ps : List Str} {k : Nat} {cl : Str → Option Addr} {ms : MS} {n p : Nat} (F : FunD K x qual params body scope [] [] f fd) (sc : FnScope N ps scope) (hn : N.length = n) (hp : ps.length = p)
    (hb : ∀ (cdv : Value) (A : Around) (outer : List Env) (s : Shared) (H : Hp) (E : XK), Room k (A.deeper (PyProof.Rows.envOfC qual scope s.heap.objs.size f cdv)) → RSs (cxOf CX0 P w K mg base N qual scope f cdv A outer s H E).nox cl body ms) :
    FnOk P w K mg base CX0 (k + 1) f fd ps (spM K cl (mfn n p ms) p) := by
  subst hn hp
  refine F.ok sc (fun vs H Q E h => h.1) (fun cdv A outer s H vs Q E hr h => ?_)
  obtain ⟨hl, S, ds, d, ah', eH, h1, ok, dv, q⟩ := h
  subst eH
  unfold mfn at h1
  split at h1
  · rename_i hd
    obtain ⟨⟨o, ah2⟩, h2, h3⟩ := Option.bind_eq_some_iff.mp h1
    refine ⟨_, PSs.nox pssW, hb cdv A outer s S.H E hr _ S _ o ah2 _ h2 ok (sv_start dv hl) fun s1 l1 e1 => ?_⟩
    cases o with
    | rt d1 =>
      intro v dv1
      obtain ⟨s2, l2, e2, eh, d2⟩ := trim_step (d' := d) (ah' := ah') ok l1 dv1 (by rw [e1]; exact Option.some.inj h3)
      show Q v s1.H
      rw [← eh]
      exact q s2 v l2 e2 d2
    | nx δ1 =>
      intro σ' _
      obtain ⟨s2, l2, e2, eh, d2⟩ := trim_step (d := .non) (v := .non) (d' := d) (ah' := ah') ok l1 .non (by rw [e1]; exact Option.some.inj h3)
      show Q .non s1.H
      rw [← eh]
      exact q s2 _ l2 e2 d2
    | _ => cases h3
  · cases h1
theorem good_of {x qual : Str} {params : Arguments} {body : List Stmt} {scope : Scope} {f : Addr} {N ps : List Str} {k : Nat} {cl : Str → Option Addr} {ms : MS} {n p : Nat} (F : ∃ fd, FunD K x qual params body scope [] [] f fd) (sc : FnScope N ps scope) (hn : N.length = n) (hp : ps.length = p)
    (hbind : ∀ (kV doc pm : Value) (an : Option Addr) (cdv ct : Value) (us : List Value), us.length = ps.length → bindArgs (PySem.W.fnOf x qual params body scope .none kV doc pm an cdv ct) ⟨us, []⟩ = pure (ps.zip us))
    (hb : ∀ (cdv : Value) (A : Around) (outer : List Env) (s : Shared) (H : Hp) (E : XK), Room k (A.deeper (PyProof.Rows.envOfC qual scope s.heap.objs.size f cdv)) → RSs (cxOf CX0 P w K mg base N qual scope f cdv A outer s H E).nox cl body ms) :
    Good P w K mg base cl (k + 1) f (mfn n p ms) p := by
  obtain ⟨fd, F⟩ := F
  exact ⟨fd, ps, fnD_of F sc hn hp hb, F.bindsN hbind, F.kp⟩
/-- the law's call -/
theorem sp_start {cl : Str → Option Addr} {mf : MF} {H : Hp} {a : Addr} {ns : List Int} {E : XK} (hm : ∃ ah', mf [.scr (ns.map .int)] [] = some (.bl true, ah')) (hS : SqL K H a (ns.map V.int)) : spM K cl mf 1 [.ref a] H (fun v _ => v = .bl true) E := by
  obtain ⟨ah', e⟩ := hm
  have nav : ¬ av ⟨fun _ => False, [], [], H⟩ a := by
    rintro (⟨n, o, h1, h2, h3⟩ | h)
    · cases h1
    · exact h
  have dvi : DVs ⟨K, cl⟩ ⟨fun _ => False, [], [], H⟩ (ns.map .int) (ns.map V.int) := by
    clear e hS
    induction ns with
    | nil => exact .nil
    | cons i r ih => exact .cons (.int i) ih
  have ok0 : Ok ⟨K, cl⟩ ⟨fun _ => False, [], [], H⟩ := { len := rfl, inj := (fun i j a h => by cases h), ne := (fun i a h => by cases h), nb := (fun a h => False.elim h), dj := (fun i a h => by cases h), obj := (fun i a o h => by cases h) }
  refine ⟨rfl, ⟨fun _ => False, [], [], H⟩, [.scr (ns.map .int)], .bl true, ah', rfl, e, ok0, .cons ?_ .nil, fun s' v l e1 d => by cases d; rfl⟩
  rcases hS with h | h
  · exact .scr h nav dvi
  · exact .scrK h dvi
end
section
variable {X : Cx} {cl : Str → Option Addr} {c e o lo hi tg iter : Expr} {es : List Expr} {pos : Pos} {m m' : ME} {ms : MA} {ml ml' : MA}
theorem re_callG {x : Str} {p : Pos} {a : Addr} {mf : MF} {k n : Nat} (G : Good X.prog X.w X.K X.mg X.base cl k a mf n) (hr : Room k X.A) (hm : X.mg x = some (.ref a)) (ha : RA X cl (e :: es) ms) (hl : ∀ δ ah p, ms δ ah = some p → p.1.length = n) (hk : (e :: es).length = n := by rfl) (hg : Gl X x := by rfl)
    (hdb : (x == ("__debug__" : Str)) = false := by decide) (he : starEach (e :: es) X.env = (false, eval e X.env) :: starEach es X.env := by rfl) (hpl : (backTo pos (starEach es X.env)).any (·.1) = false := by rfl) : RE X cl (.Call (.Name x p) (e :: es) [] pos) (eCall mf ms) := by
  obtain ⟨fd, ps, F, b, kp⟩ := G
  exact re_call (pe_call F hr hg hm kp b .nil pass0 paW hdb he hpl) hk ha hl
theorem methT {k n : Nat} {c m : Str} {C f : Addr} {mf : MF} (hc : cl c = some C) (hC : Cls X.K C) (hM : Meth X.K C m f) (G : Good X.prog X.w X.K X.mg X.base cl k f mf n) : ∀ c' mf', ([(c, mf)] : List (Str × MF)).lookup c' = some mf' → MethOk X cl k m c' mf' n := fun c' mf' h => by
  rw [List.lookup_cons] at h
  split at h
  · rename_i e
    cases h
    have : c' = c := eq_of_beq e
    subst this
    obtain ⟨fd, ps, F, b, kp⟩ := G
    exact ⟨C, f, fd, ps, hc, hC, hM, F, b⟩
  · cases h
theorem re_makeG {x : Str} {p : Pos} {C f : Addr} {mf : MF} {k n : Nat} (hc : cl x = some C) (M : Mk X.K C f) (G : Good X.prog X.w X.K X.mg X.base cl k f mf (n + 1)) (hr : Room (k + 1) X.A) (hm : X.mg x = some (.ref C)) (ha : RA X cl (e :: es) ms) (hl : ∀ δ ah p, ms δ ah = some p → p.1.length = n)
    (hg : Gl X x := by rfl) (hdb : (x == ("__debug__" : Str)) = false := by decide) (he : starEach (e :: es) X.env = (false, eval e X.env) :: starEach es X.env := by rfl) (hpl : (backTo pos (starEach es X.env)).any (·.1) = false := by rfl) : RE X cl (.Call (.Name x p) (e :: es) [] pos) (eMake x mf ms) := by
  obtain ⟨fd, ps, F, b, kp⟩ := G
  exact re_make hc (pe_make M F hr hg hm b .nil pass0 paW hdb he hpl) ha hl
/-! ### one mirror or the other -/
def orE (a b : ME) : ME := fun δ ah => match a δ ah with | some r => some r | none => b δ ah
theorem re_orE (h1 : RE X cl e m) (h2 : RE X cl e m') : RE X cl e (orE m m') := fun δ s σ d ah' Q h ok sv q => by
  unfold orE at h
  split at h
  · rename_i r e1
    cases h
    exact h1 δ s σ d ah' Q e1 ok sv q
  · exact h2 δ s σ d ah' Q h ok sv q
def orA (a b : MA) : MA := fun δ ah => match a δ ah with | some r => some r | none => b δ ah
theorem ri_orA (h1 : RI X cl tg iter ml) (h2 : RI X cl tg iter ml') : RI X cl tg iter (orA ml ml') := fun δ s σ ds ah' R h ok sv q => by
  unfold orA at h
  split at h
  · rename_i r e1
    cases h
    exact h1 δ s σ ds ah' R e1 ok sv q
  · exact h2 δ s σ ds ah' R h ok sv q
/-- a[lo:hi], whatever a is -/
def eSl (a : ME) (lo hi : MO) : ME := orE (eSlice a lo hi) (eFrz (fSlice a lo hi))
theorem re_sl {lo hi : Option Expr} {mlo mhi : MO} {p2 : Pos} (ha : RE X cl e m) (hl : ROp X cl lo mlo) (hh : ROp X cl hi mhi) : RE X cl (.Subscript e (.Slice lo hi none p2) pos) (eSl m mlo mhi) := re_orE (re_slice ha hl hh) (re_frz (rf_slice ha hl hh))
def eRv (a : ME) : ME := orE (eRevS a) (eFrz (fRev a))
theorem re_rv {k : Nat} {p1 p2 p3 : Pos} (h : RE X cl e m) : RE X cl (.Subscript e (.Slice none none (some (.UnaryOp .USub (.Constant (.int 1) k p1) p2)) p3) pos) (eRv m) := re_orE (re_revS h) (re_frz (rf_rev h))
def iAny (m : ME) : MA := orA (iSeq m) (iKeysD m)
theorem ri_any (h : RE X cl iter m) : RI X cl tg iter (iAny m) := ri_orA (ri_seq h) (ri_keys h)
theorem room_u {k : Nat} {A : Around} (hr : Room k A) : A.units + 100 < cLine := by have := hr.un; omega
theorem room64 {k : Nat} {A : Around} (hr : Room k A) : A.units + 64 < cLine := by have := hr.un; omega
theorem room65 {k : Nat} {A : Around} (hr : Room k A) : A.units + 65 < cLine := by have := hr.un; omega
end
/-! ### constants -/
section
variable {K : PySem.W.Frag} {mg : Str → Option Value}
theorem gc_str {x z : Str} (h : ∃ t, mg x = some (.str z t)) : Gc K mg x (.str z) := let ⟨t, e⟩ := h; ⟨_, .str z, e, ⟨t, rfl⟩, fun _ _ => .str z⟩
theorem gc_int {x : Str} {i : Int} (h : ∃ t, mg x = some (.int i t)) : Gc K mg x (.int i) := let ⟨t, e⟩ := h; ⟨_, .int i, e, ⟨t, rfl⟩, fun _ _ => .int i⟩
end
end MM

set_option linter.all false
set_option maxRecDepth 100000
namespace MM
open PySem L2
abbrev eMkF := eMakeF
section
variable {K : PySem.W.Frag} {mg : Str → Option Value} {cl : Str → Option Addr}
theorem fldOk_of {cs : List Str} {f : Str} (h : ∀ c ∈ cs, ∃ C, cl c = some C ∧ Cls K C ∧ NoAttr K C f) : FldOk K cl cs f := fun c hc C e => by
  obtain ⟨D, h1, h2, h3⟩ := h c hc
  obtain rfl : D = C := Option.some.inj (h1.symm.trans e)
  exact ⟨h2, h3⟩
/-- a module's tuple of texts, as a Bool -/
def tupC (K : PySem.W.Frag) (x : Str) (l : List Str) : Bool := match K.lookup (He.ga K x) with
  | some ⟨.type c, none, .seq its _, _⟩ => decide (c = "tuple") && (decide (its.size ≤ sizeLine) && He.relAll (l.map V.str) its.toList)
  | _ => false
theorem tc_of {x : Str} {l : List Str} (h1 : mg x = some (.ref (He.ga K x))) (h : tupC K x l = true) : Tc K mg x (He.ga K x) l := by
  refine ⟨h1, ?_⟩
  unfold tupC at h
  split at h
  · rename_i c its n sl e
    rw [Bool.and_eq_true, Bool.and_eq_true] at h
    exact ⟨_, its, n, e, congrArg Value.type (of_decide_eq_true h.1), rfl, rfl, of_decide_eq_true h.2.1, He.relAll_ok h.2.2⟩
  · cases h
/-- a class that isinstance asks for -/
def insC (K : PySem.W.Frag) (x : Str) : Bool :=
  decide (PySem.W.findIn K (.ref (He.ga K x)) "__class__" = some (some (.builtin "object.__class__"))) && (decide (PySem.W.specialIn K (.builtin "object.__class__") "__get__" = some (some (.builtin "getset_descriptor.__get__"))) &&
    (decide (PySem.W.takesIn K (.builtin "object.__class__") = some true) && (decide (PySem.W.mroIn K (He.ga K x) (.type "object") = some true) && decide (PySem.W.kitOne K (.ref (He.ga K x)) (.ref (He.ga K x)) = some true))))
theorem insTy_of {x : Str} (c : Cls K (He.ga K x)) (h : insC K x = true) : InsTy K (He.ga K x) := by
  unfold insC at h
  simp only [Bool.and_eq_true, decide_eq_true_eq] at h
  exact ⟨c, h.1, h.2.1, h.2.2.1, h.2.2.2.1, h.2.2.2.2⟩
end
/-! ### the head's facts and one Bool more -/
abbrev AlX : Type := Bool × He.AlD
def obsX (ex : PySem.W.Frag → Bool) (fa : List He.Fa) (fn : List He.DefD) (K : PySem.W.Frag) : AlX := (ex K, He.obsD fa fn K)
def SaysX (ex : PySem.W.Frag → Bool) (fa : List He.Fa) (fn : List He.DefD) (K : PySem.W.Frag) : Prop := obsX ex fa fn K = (true, He.valD fn)
def obsXG (n : Nat) (ex : PySem.W.Frag → Bool) (fa : List He.Fa) (fn : List He.DefD) (g : Addr → Option Obj) : AlX := obsX ex fa fn (He.frG g (He.asD g n))
def hookX (n : Nat) (ex : PySem.W.Frag → Bool) (fa : List He.Fa) (fn : List He.DefD) : PySem.W.Hook where
  α := AlX
  obs := fun s => obsXG n ex fa fn s.heap.get?
  val := fun _ => (true, He.valD fn)
  says := fun _ h => ∃ K : PySem.W.Frag, K.In h ∧ SaysX ex fa fn K
  of := fun _ _ q => ⟨_, He.frG_in, q⟩
  keeps := fun _ _ _ ⟨K, i, c⟩ k => ⟨K, PySem.W.Frag.In.keeps i k, c⟩
theorem obsXG_eq {n : Nat} {ex : PySem.W.Frag → Bool} {fa : List He.Fa} {fn : List He.DefD} {g : Addr → Option Obj} {s : Shared} (h : ∀ a, g a = s.heap.get? a) : obsXG n ex fa fn g = (hookX n ex fa fn).obs s := by
  have e : g = s.heap.get? := funext h
  rw [e]
  rfl
theorem SaysX.ex {ex : PySem.W.Frag → Bool} {fa : List He.Fa} {fn : List He.DefD} {K : PySem.W.Frag} (c : SaysX ex fa fn K) : ex K = true := congrArg (fun z : AlX => z.1) c
theorem SaysX.d {ex : PySem.W.Frag → Bool} {fa : List He.Fa} {fn : List He.DefD} {K : PySem.W.Frag} (c : SaysX ex fa fn K) : He.SaysD fa fn K := congrArg (fun z : AlX => z.2) c
end MM

set_option linter.all false
set_option maxRecDepth 100000
/-! tools for the mirrors' mathematics -/
namespace MM
open PySem L2
theorem trim_self (ah : AH) (d : D) : trim ah (d, ah) = (d, ah) := by
  unfold trim
  split
  · rw [List.take_length]
  · rfl
/-- no object names what is not there -/
def Bd (ah : AH) : Prop := ∀ o ∈ ah, AO.bd ah.length o = true
theorem trim_len {ah ah2 g : AH} {d : D} (h : ah2.length = ah.length) (hd : D.bd ah.length d = true) (hb : Bd ah2) : trim ah (d, ah2 ++ g) = (d, ah2) := by
  unfold trim
  have e : (ah2 ++ g).take ah.length = ah2 := by rw [← h, List.take_left]
  rw [e, if_pos]
  rw [hd, Bool.true_and, List.all_eq_true]
  intro o ho
  rw [← h]
  exact hb o ho
theorem trim_len0 {ah ah2 : AH} {d : D} (h : ah2.length = ah.length) : trim ah (d, ah2) = (d, ah2) := by
  unfold trim
  split
  · rw [← h, List.take_length]
  · rfl
theorem seq_nx {a b : MS} {δ δ1 : DL} {ah ah1 : AH} (h : a δ ah = some (.nx δ1, ah1)) : sSeq a b δ ah = b δ1 ah1 := by
  unfold sSeq
  rw [h]
  rfl
theorem seq_rt {a b : MS} {δ : DL} {d : D} {ah ah1 : AH} (h : a δ ah = some (.rt d, ah1)) : sSeq a b δ ah = some (.rt d, ah1) := by
  unfold sSeq
  rw [h]
  rfl
theorem if_t {c : MT} {a b : MS} {δ : DL} {ah ah1 : AH} (h : c δ ah = some (true, ah1)) : sIf c a b δ ah = a δ ah1 := by
  unfold sIf
  rw [h]
  rfl
theorem if_f {c : MT} {a b : MS} {δ : DL} {ah ah1 : AH} (h : c δ ah = some (false, ah1)) : sIf c a b δ ah = b δ ah1 := by
  unfold sIf
  rw [h]
  rfl
theorem fn_rt {n k : Nat} {s : MS} {ds : List D} {ah ah2 : AH} {d : D} (hk : ds.length = k) (h : s (ds.map some ++ List.replicate (n - k) none) ah = some (.rt d, ah2)) : mfn n k s ds ah = some (trim ah (d, ah2)) := by
  unfold mfn
  rw [if_pos hk, h]
  rfl
theorem fn_nx {n k : Nat} {s : MS} {ds : List D} {δ : DL} {ah ah2 : AH} (hk : ds.length = k) (h : s (ds.map some ++ List.replicate (n - k) none) ah = some (.nx δ, ah2)) : mfn n k s ds ah = some (trim ah (.non, ah2)) := by
  unfold mfn
  rw [if_pos hk, h]
  rfl
theorem call_ev {mf : MF} {ma : MA} {δ : DL} {ah ah1 : AH} {ds : List D} (h : ma δ ah = some (ds, ah1)) : eCall mf ma δ ah = mf ds ah1 := by
  unfold eCall
  rw [h]
  rfl
/-! comprehensions -/
inductive All2 {α β : Type} (P : α → β → Prop) : List α → List β → Prop
  | nil : All2 P [] []
  | cons {a : α} {b : β} {l : List α} {m : List β} : P a b → All2 P l m → All2 P (a :: l) (b :: m)
theorem compGo_map {g : D → DL → Option DL} {t : MT} {e : ME} {δ : DL} {ah : AH} {α : Type} {i : α → D} {f : α → D} : ∀ {l : List α}, (∀ x ∈ l, ∃ δ1, g (i x) δ = some δ1 ∧ t δ1 ah = some (true, ah) ∧ e δ1 ah = some (f x, ah)) → compGo g t e δ (l.map i) ah = some (l.map f, ah)
  | [], _ => rfl
  | d :: r, h => by
    obtain ⟨δ1, h1, h2, h3⟩ := h d (by simp)
    have ih := compGo_map (g := g) (t := t) (e := e) (δ := δ) (i := i) (f := f) (l := r) fun x hx => h x (by simp [hx])
    simp only [compGo, List.map_cons, h1, h2, h3, ih, Option.bind_some, Option.map_some, if_true]
theorem compGo_filter {g : D → DL → Option DL} {t : MT} {e : ME} {δ : DL} {ah : AH} {α : Type} {i : α → D} {f : α → D} {p : α → Bool} : ∀ {l : List α}, (∀ x ∈ l, ∃ δ1, g (i x) δ = some δ1 ∧ t δ1 ah = some (p x, ah) ∧ (p x = true → e δ1 ah = some (f x, ah))) → compGo g t e δ (l.map i) ah = some ((l.filter p).map f, ah)
  | [], _ => rfl
  | d :: r, h => by
    obtain ⟨δ1, h1, h2, h3⟩ := h d (by simp)
    have ih := compGo_filter (g := g) (t := t) (e := e) (δ := δ) (i := i) (f := f) (p := p) (l := r) fun x hx => h x (by simp [hx])
    cases hp : p d with
    | true => simp only [compGo, List.map_cons, h1, h2, hp, h3 hp, ih, Option.bind_some, Option.map_some, if_true, List.filter_cons]
    | false => simp only [compGo, List.map_cons, h1, h2, hp, ih, Option.bind_some, List.filter_cons, Bool.false_eq_true, if_false]
/-- a comprehension whose turns change the heap: what each turn gives is told by P, what it keeps by R -/
theorem compGo_rel {g : D → DL → Option DL} {e : ME} {δ : DL} {α : Type} {i : α → D} {P : α → D → Prop} {R : AH → AH → Prop} (rr : ∀ ah, R ah ah) (tr : ∀ a b c, R a b → R b c → R a c) : ∀ {l : List α} {ah : AH}, (∀ x ∈ l, ∀ ah1, R ah ah1 → ∃ δ1 d ah2, g (i x) δ = some δ1 ∧ e δ1 ah1 = some (d, ah2) ∧ R ah1 ah2 ∧ P x d) →
    ∃ ds ah', compGo g tYesM e δ (l.map i) ah = some (ds, ah') ∧ R ah ah' ∧ All2 P l ds
  | [], ah, _ => ⟨[], ah, rfl, rr ah, .nil⟩
  | x :: r, ah, h => by
    obtain ⟨δ1, d, ah2, h1, h2, h3, h4⟩ := h x (by simp) ah (rr ah)
    obtain ⟨ds, ah', k1, k2, k3⟩ := compGo_rel rr tr (i := i) (P := P) (l := r) (ah := ah2) fun y hy ah3 hr => h y (by simp [hy]) ah3 (tr _ _ _ h3 hr)
    refine ⟨d :: ds, ah', ?_, tr _ _ _ h3 k2, .cons h4 k3⟩
    simp only [compGo, List.map_cons, h1, tYesM, h2, k1, Option.bind_some, Option.map_some, if_true]
/-- a for loop: an invariant by what is gone through -/
theorem forGo_inv {g : D → DL → Option DL} {b : MS} {I : List D → DL → AH → Prop} : ∀ {l done : List D} {δ : DL} {ah : AH}, I done δ ah → (∀ dn d r δ ah, done ++ l = dn ++ d :: r → I dn δ ah → ∃ δ1 δ2 ah2, g d δ = some δ1 ∧ b δ1 ah = some (.nx δ2, ah2) ∧ I (dn ++ [d]) δ2 ah2) →
    ∃ δ' ah', forGo g b l δ ah = some (.nx δ', ah') ∧ I (done ++ l) δ' ah'
  | [], done, δ, ah, h, _ => ⟨δ, ah, rfl, by rw [List.append_nil]; exact h⟩
  | d :: r, done, δ, ah, h, st => by
    obtain ⟨δ1, δ2, ah2, h1, h2, h3⟩ := st done d r δ ah rfl h
    obtain ⟨δ', ah', k1, k2⟩ := forGo_inv (l := r) (done := done ++ [d]) h3 fun dn d' r' δ ah e => st dn d' r' δ ah (by rw [← e, List.append_assoc]; rfl)
    refine ⟨δ', ah', ?_, by rw [List.append_assoc] at k2; exact k2⟩
    simp only [forGo, h1, h2, k1, Option.bind_some]
end MM

set_option linter.all false
set_option maxRecDepth 100000
namespace MM
open PySem L2
theorem iAny_tup {m : ME} {δ : DL} {ah ah1 : AH} {l : List D} (h : m δ ah = some (.tup l, ah1)) : iAny m δ ah = some (l, ah1) := by
  simp [iAny, orA, iSeq, h, gIter]
theorem iAny_lst {m : ME} {δ : DL} {ah ah1 : AH} {l : List D} (h : m δ ah = some (.lst l, ah1)) : iAny m δ ah = some (l, ah1) := by
  simp [iAny, orA, iSeq, h, gIter]
theorem iAny_scr {m : ME} {δ : DL} {ah ah1 : AH} {l : List D} (h : m δ ah = some (.scr l, ah1)) : iAny m δ ah = some (l, ah1) := by
  simp [iAny, orA, iSeq, h, gIter]
theorem iAny_str {m : ME} {δ : DL} {ah ah1 : AH} {z : Str} (h : m δ ah = some (.str z, ah1)) : iAny m δ ah = some (signs z, ah1) := by
  simp [iAny, orA, iSeq, h, gIter]
theorem iAny_dic {m : ME} {δ : DL} {ah ah1 : AH} {l : List (Key × D)} (h : m δ ah = some (.dic l, ah1)) : iAny m δ ah = some (l.map fun kv => keyD kv.1, ah1) := by
  simp [iAny, orA, iSeq, iKeysD, h, gIter]
theorem rng1 {m : ME} {δ : DL} {ah ah1 : AH} {n : Nat} (h : m δ ah = some (.int n, ah1)) (hn : n ≤ 10000) : iRng1M m δ ah = some ((List.range n).map fun i => .int (i : Nat), ah1) := by
  simp only [iRng1M, h, Option.bind_some, gRange]
  rw [if_pos (by omega)]
  simp
theorem comp_ev {mi : MA} {g : D → DL → Option DL} {t : MT} {e : ME} {vs : List Nat} {δ : DL} {ah ah1 : AH} {l : List D} (h : mi δ ah = some (l, ah1)) (hl : l.length ≤ 100000) : fComp mi g t e vs δ ah = compGo g t e (wipeD δ vs) l ah1 := by
  simp only [fComp, h, Option.bind_some]
  rw [if_pos hl]
theorem for_ev {mi : MA} {g : D → DL → Option DL} {b : MS} {δ : DL} {ah ah1 : AH} {l : List D} (h : mi δ ah = some (l, ah1)) : sFor mi g b δ ah = forGo g b l δ ah1 := by
  simp only [sFor, h, Option.bind_some]
theorem bls_map {α : Type} (p : α → Bool) : ∀ l : List α, blsOf (l.map fun x => .bl (p x)) = some (l.map p)
  | [] => rfl
  | x :: r => by simp [blsOf, bls_map p r]
theorem strs_map {α : Type} (p : α → Str) : ∀ l : List α, strsOf (l.map fun x => .str (p x)) = some (l.map p)
  | [] => rfl
  | x :: r => by simp [strsOf, strs_map p r]
theorem frz_ev {m : MA} {δ : DL} {ah ah1 : AH} {l : List D} (h : m δ ah = some (l, ah1)) : eFrz m δ ah = some (.lst l, ah1) := by
  simp [eFrz, h]
theorem own_ev {m : MA} {δ : DL} {ah ah1 : AH} {l : List D} (h : m δ ah = some (l, ah1)) : eOwn m δ ah = some (.ptr ah1.length, ah1 ++ [.lst l]) := by
  simp [eOwn, h]
theorem e1_ev {g : AH → D → Option D} {m : ME} {δ : DL} {ah ah1 : AH} {x y : D} (h : m δ ah = some (x, ah1)) (hg : g ah1 x = some y) : e1 g m δ ah = some (y, ah1) := by
  simp [e1, h, hg]
theorem f1_ev {g : AH → D → Option (List D)} {m : ME} {δ : DL} {ah ah1 : AH} {x : D} {y : List D} (h : m δ ah = some (x, ah1)) (hg : g ah1 x = some y) : f1 g m δ ah = some (y, ah1) := by
  simp [f1, h, hg]
theorem bin_ev {g : AH → D → D → Option D} {a b : ME} {δ : DL} {ah ah1 ah2 : AH} {x y z : D} (h1 : a δ ah = some (x, ah1)) (h2 : b δ ah1 = some (y, ah2)) (hg : g ah2 x y = some z) : eBin g a b δ ah = some (z, ah2) := by
  simp [eBin, h1, h2, hg]
theorem tof_ev {m : ME} {δ : DL} {ah ah1 : AH} {b : Bool} (h : m δ ah = some (.bl b, ah1)) : tOf m δ ah = some (b, ah1) := by
  simp [tOf, h]
theorem ret_ev {m : ME} {δ : DL} {ah ah1 : AH} {d : D} (h : m δ ah = some (d, ah1)) : sRet m δ ah = some (.rt d, ah1) := by
  simp [sRet, h]
theorem asg_ev {i : Nat} {m : ME} {δ : DL} {ah ah1 : AH} {d : D} (h : m δ ah = some (d, ah1)) : sAsg (tgN i) m δ ah = some (.nx (δ.set i (some d)), ah1) := by
  simp [sAsg, tgN, h]
theorem exp_ev {m : ME} {δ : DL} {ah ah1 : AH} {d : D} (h : m δ ah = some (d, ah1)) : sExpr m δ ah = some (.nx δ, ah1) := by
  simp [sExpr, h]
theorem all_lst (ah : AH) (bs : List Bool) : gAll ah (.lst (bs.map .bl)) = some (.bl (bs.all fun b => b)) := by
  simp [gAll, asL, blsOf_map]
theorem chain_t {a b c : ME} {δ : DL} {ah : AH} {i j k : Int} (h1 : a δ ah = some (.int i, ah)) (h2 : b δ ah = some (.int j, ah)) (h3 : c δ ah = some (.int k, ah)) (e1 : i ≤ j) (e2 : j ≤ k) : eChain gLe gLe a b c δ ah = some (.bl true, ah) := by
  simp [eChain, h1, h2, h3, gI, e1, e2]
theorem len_str {m : ME} {δ : DL} {ah ah1 : AH} {z : Str} (h : m δ ah = some (.str z, ah1)) (hz : z.length ≤ 100000) : e1 gLen m δ ah = some (.int z.length, ah1) := e1_ev h (by simp [gLen, hz])
theorem len_tup {m : ME} {δ : DL} {ah ah1 : AH} {l : List D} (h : m δ ah = some (.tup l, ah1)) : e1 gLen m δ ah = some (.int l.length, ah1) := e1_ev h rfl
theorem len_lst {m : ME} {δ : DL} {ah ah1 : AH} {l : List D} (h : m δ ah = some (.lst l, ah1)) : e1 gLen m δ ah = some (.int l.length, ah1) := e1_ev h rfl
theorem tnot_ev {t : MT} {δ : DL} {ah ah1 : AH} {b : Bool} (h : t δ ah = some (b, ah1)) : tNotM t δ ah = some (!b, ah1) := by simp [tNotM, h]
theorem tor_f {t u : MT} {δ : DL} {ah ah1 : AH} (h : t δ ah = some (false, ah1)) : tOrM t u δ ah = u δ ah1 := by simp [tOrM, h]
theorem tor_t {t u : MT} {δ : DL} {ah ah1 : AH} (h : t δ ah = some (true, ah1)) : tOrM t u δ ah = some (true, ah1) := by simp [tOrM, h]
theorem tand_t {t u : MT} {δ : DL} {ah ah1 : AH} (h : t δ ah = some (true, ah1)) : tAndM t u δ ah = u δ ah1 := by simp [tAndM, h]
theorem tand_f {t u : MT} {δ : DL} {ah ah1 : AH} (h : t δ ah = some (false, ah1)) : tAndM t u δ ah = some (false, ah1) := by simp [tAndM, h]
theorem and_t {a b : ME} {δ : DL} {ah ah1 : AH} (h : a δ ah = some (.bl true, ah1)) : eAnd a b δ ah = b δ ah1 := by simp [eAnd, h]
/-- one sign of a text in a text -/
theorem in_sign (ah : AH) (c : Nat) (z : Str) : gIn ah (.str ⟨#[c]⟩) (.str z) = some (.bl (decide (c ∈ z.cps.toList))) := by
  simp [gIn, dIn, Str.length]
end MM

set_option Elab.async false
set_option linter.all false
set_option maxRecDepth 100000
set_option maxHeartbeats 0
namespace K88
open PySem L2 MM
/-! ### 1. the text by places -/
def top (i : Nat) : Stmt := PySem.Challenge.pw_faceonface_k88_whole_told_lists_of_books.main.body.getD i (.Pass ⟨0, 0, 0, 0⟩)
abbrev st__law_bag : Stmt := top 53
abbrev st__law_take : Stmt := top 54
abbrev st__law_box : Stmt := top 55
abbrev st__law_names : Stmt := top 57
abbrev st__law_face : Stmt := top 56
abbrev st__law_turnings : Stmt := top 60
abbrev st__law_spun : Stmt := top 58
abbrev st__law_over : Stmt := top 59
abbrev st__law_faces : Stmt := top 61
abbrev st_is_name : Stmt := top 19
abbrev st_is_face_row : Stmt := top 20
abbrev st_is_face : Stmt := top 21
abbrev st_box_of : Stmt := top 31
abbrev st_are_faces : Stmt := top 42
abbrev st_Stamps___init__ : Stmt := inClass (top 44) 0
abbrev st_good_or_wrong : Stmt := top 48
abbrev st_Book___init__ : Stmt := inClass (top 51) 0
abbrev st_Book_copied : Stmt := inClass (top 51) 18
abbrev st_Book_length : Stmt := inClass (top 51) 3
abbrev st_is_hand_turning : Stmt := top 22
abbrev st_is_deed : Stmt := top 23
abbrev st_names_in : Stmt := top 43
abbrev st_Stamps_names : Stmt := inClass (top 44) 1
abbrev st_Stamps_box : Stmt := inClass (top 44) 3
abbrev st_quarters : Stmt := top 28
abbrev st_has_turning : Stmt := top 29
abbrev st_Stamps_need_deed : Stmt := inClass (top 44) 5
abbrev st_mirrored : Stmt := top 32
abbrev st_laid_sign : Stmt := top 35
abbrev st_laid_two : Stmt := top 36
abbrev st_exchanges : Stmt := top 27
abbrev st_quarter_turned : Stmt := top 33
abbrev st_turned : Stmt := top 34
abbrev st_Stamps_face_behind : Stmt := inClass (top 44) 6
abbrev st_Stamps_done : Stmt := inClass (top 44) 7
abbrev st_done_at : Stmt := top 38
abbrev st_standings_behind : Stmt := top 39
abbrev st_Book_stood_by : Stmt := inClass (top 51) 5
abbrev st_Stamps_faces : Stmt := inClass (top 44) 2
abbrev st_otherwise : Stmt := top 49
abbrev st_Book_become : Stmt := inClass (top 51) 6
abbrev st_Book_back : Stmt := inClass (top 51) 15
abbrev st_Book_again : Stmt := inClass (top 51) 16
abbrev st__law_deed : Stmt := top 62
abbrev st__law_doing : Stmt := top 63
abbrev st__law_row_by : Stmt := top 67
abbrev st_Book_need_room : Stmt := inClass (top 51) 9
abbrev st_Book_changed : Stmt := inClass (top 51) 7
abbrev st_Book_do : Stmt := inClass (top 51) 10
abbrev st_is_whole : Stmt := top 18
abbrev st_is_from_none : Stmt := top 24
abbrev st_Book_need_there : Stmt := inClass (top 51) 8
abbrev st_Book_put_row : Stmt := inClass (top 51) 11
abbrev st_Book_put : Stmt := inClass (top 51) 12
abbrev st_Book_slip : Stmt := inClass (top 51) 13
abbrev st_Book_take : Stmt := inClass (top 51) 14
abbrev st__law_told_by : Stmt := top 68
abbrev st__law_done : Stmt := top 64
abbrev st__law_stood : Stmt := top 65
abbrev st__law_otherwise : Stmt := top 66
abbrev st__law_changed : Stmt := top 69
abbrev st_Book_row : Stmt := inClass (top 51) 2
abbrev st__law_step : Stmt := top 70
abbrev st_law : Stmt := top 71
theorem sc__law_bag : FnScope ["script", "cell"] ["script"] (defScope st__law_bag) := ⟨rfl, rfl, rfl, by decide +kernel, rfl, by decide +kernel, by decide +kernel⟩
theorem sc__law_take : FnScope ["bag", "many", "first", "second", "cell", "value"] ["bag", "many"] (defScope st__law_take) := ⟨rfl, rfl, rfl, by decide +kernel, rfl, by decide +kernel, by decide +kernel⟩
theorem sc__law_box : FnScope ["bag", "most", "wide"] ["bag", "most"] (defScope st__law_box) := ⟨rfl, rfl, rfl, by decide +kernel, rfl, by decide +kernel, by decide +kernel⟩
theorem sc__law_names : FnScope ["bag", "many", "letters", "base", "at", "spin", "found", "words", "k"] ["bag", "many"] (defScope st__law_names) := ⟨rfl, rfl, rfl, by decide +kernel, rfl, by decide +kernel, by decide +kernel⟩
theorem sc__law_face : FnScope ["bag", "box", "part", "rows", "at", "y", "x"] ["bag", "box"] (defScope st__law_face) := ⟨rfl, rfl, rfl, by decide +kernel, rfl, by decide +kernel, by decide +kernel⟩
theorem sc__law_turnings : FnScope ["box"] ["box"] (defScope st__law_turnings) := ⟨rfl, rfl, rfl, by decide +kernel, rfl, by decide +kernel, by decide +kernel⟩
theorem sc__law_spun : FnScope ["face", "turning", "cells", "y", "wide", "high", "quarter", "x"] ["face", "turning"] (defScope st__law_spun) := ⟨rfl, rfl, rfl, by decide +kernel, rfl, by decide +kernel, by decide +kernel⟩
theorem sc__law_over : FnScope ["one", "other", "rows", "y", "x"] ["one", "other"] (defScope st__law_over) := ⟨rfl, rfl, rfl, by decide +kernel, rfl, by decide +kernel, by decide +kernel⟩
theorem sc__law_faces : FnScope ["bag", "box", "names", "found", "some", "name", "way_of", "one", "spins"] ["bag", "box", "names"] (defScope st__law_faces) := ⟨rfl, rfl, rfl, by decide +kernel, rfl, by decide +kernel, by decide +kernel⟩
theorem sc_is_name : FnScope ["thing", "sign"] ["thing"] (defScope st_is_name) := ⟨rfl, rfl, rfl, by decide +kernel, rfl, by decide +kernel, by decide +kernel⟩
theorem sc_is_face_row : FnScope ["thing", "sign"] ["thing"] (defScope st_is_face_row) := ⟨rfl, rfl, rfl, by decide +kernel, rfl, by decide +kernel, by decide +kernel⟩
theorem sc_is_face : FnScope ["thing", "row"] ["thing"] (defScope st_is_face) := ⟨rfl, rfl, rfl, by decide +kernel, rfl, by decide +kernel, by decide +kernel⟩
theorem sc_box_of : FnScope ["face"] ["face"] (defScope st_box_of) := ⟨rfl, rfl, rfl, by decide +kernel, rfl, by decide +kernel, by decide +kernel⟩
theorem sc_are_faces : FnScope ["thing", "name", "boxes", "box"] ["thing"] (defScope st_are_faces) := ⟨rfl, rfl, rfl, by decide +kernel, rfl, by decide +kernel, by decide +kernel⟩
theorem sc_Stamps___init__ : FnScope ["self", "faces", "name"] ["self", "faces"] (defScope st_Stamps___init__) := ⟨rfl, rfl, rfl, by decide +kernel, rfl, by decide +kernel, by decide +kernel⟩
theorem sc_good_or_wrong : FnScope ["at", "good"] ["at", "good"] (defScope st_good_or_wrong) := ⟨rfl, rfl, rfl, by decide +kernel, rfl, by decide +kernel, by decide +kernel⟩
theorem sc_Book___init__ : FnScope ["self", "stamps"] ["self", "stamps"] (defScope st_Book___init__) := ⟨rfl, rfl, rfl, by decide +kernel, rfl, by decide +kernel, by decide +kernel⟩
theorem sc_Book_copied : FnScope ["self", "other"] ["self"] (defScope st_Book_copied) := ⟨rfl, rfl, rfl, by decide +kernel, rfl, by decide +kernel, by decide +kernel⟩
theorem sc_Book_length : FnScope ["self"] ["self"] (defScope st_Book_length) := ⟨rfl, rfl, rfl, by decide +kernel, rfl, by decide +kernel, by decide +kernel⟩
theorem sc_is_hand_turning : FnScope ["thing"] ["thing"] (defScope st_is_hand_turning) := ⟨rfl, rfl, rfl, by decide +kernel, rfl, by decide +kernel, by decide +kernel⟩
theorem sc_is_deed : FnScope ["thing"] ["thing"] (defScope st_is_deed) := ⟨rfl, rfl, rfl, by decide +kernel, rfl, by decide +kernel, by decide +kernel⟩
theorem sc_names_in : FnScope ["deed"] ["deed"] (defScope st_names_in) := ⟨rfl, rfl, rfl, by decide +kernel, rfl, by decide +kernel, by decide +kernel⟩
theorem sc_Stamps_names : FnScope ["self"] ["self"] (defScope st_Stamps_names) := ⟨rfl, rfl, rfl, by decide +kernel, rfl, by decide +kernel, by decide +kernel⟩
theorem sc_Stamps_box : FnScope ["self"] ["self"] (defScope st_Stamps_box) := ⟨rfl, rfl, rfl, by decide +kernel, rfl, by decide +kernel, by decide +kernel⟩
theorem sc_quarters : FnScope ["turning"] ["turning"] (defScope st_quarters) := ⟨rfl, rfl, rfl, by decide +kernel, rfl, by decide +kernel, by decide +kernel⟩
theorem sc_has_turning : FnScope ["box", "turning"] ["box", "turning"] (defScope st_has_turning) := ⟨rfl, rfl, rfl, by decide +kernel, rfl, by decide +kernel, by decide +kernel⟩
theorem sc_Stamps_need_deed : FnScope ["self", "deed", "name"] ["self", "deed"] (defScope st_Stamps_need_deed) := ⟨rfl, rfl, rfl, by decide +kernel, rfl, by decide +kernel, by decide +kernel⟩
theorem sc_mirrored : FnScope ["face", "row"] ["face"] (defScope st_mirrored) := ⟨rfl, rfl, rfl, by decide +kernel, rfl, by decide +kernel, by decide +kernel⟩
theorem sc_laid_sign : FnScope ["one", "other"] ["one", "other"] (defScope st_laid_sign) := ⟨rfl, rfl, rfl, by decide +kernel, rfl, by decide +kernel, by decide +kernel⟩
theorem sc_laid_two : FnScope ["one", "other", "rows", "mine", "its", "a", "b"] ["one", "other"] (defScope st_laid_two) := ⟨rfl, rfl, rfl, by decide +kernel, rfl, by decide +kernel, by decide +kernel⟩
theorem sc_exchanges : FnScope ["turning"] ["turning"] (defScope st_exchanges) := ⟨rfl, rfl, rfl, by decide +kernel, rfl, by decide +kernel, by decide +kernel⟩
theorem sc_quarter_turned : FnScope ["face", "x", "row"] ["face"] (defScope st_quarter_turned) := ⟨rfl, rfl, rfl, by decide +kernel, rfl, by decide +kernel, by decide +kernel⟩
theorem sc_turned : FnScope ["face", "turning", "quarter"] ["face", "turning"] (defScope st_turned) := ⟨rfl, rfl, rfl, by decide +kernel, rfl, by decide +kernel, by decide +kernel⟩
theorem sc_Stamps_face_behind : FnScope ["self", "deed"] ["self", "deed"] (defScope st_Stamps_face_behind) := ⟨rfl, rfl, rfl, by decide +kernel, rfl, by decide +kernel, by decide +kernel⟩
theorem sc_Stamps_done : FnScope ["self", "deed", "faces"] ["self", "deed"] (defScope st_Stamps_done) := ⟨rfl, rfl, rfl, by decide +kernel, rfl, by decide +kernel, by decide +kernel⟩
theorem sc_done_at : FnScope ["stamps", "at", "deed"] ["stamps", "at", "deed"] (defScope st_done_at) := ⟨rfl, rfl, rfl, by decide +kernel, rfl, by decide +kernel, by decide +kernel⟩
theorem sc_standings_behind : FnScope ["stamps", "row", "found", "at", "deed"] ["stamps", "row"] (defScope st_standings_behind) := ⟨rfl, rfl, rfl, by decide +kernel, rfl, by decide +kernel, by decide +kernel⟩
theorem sc_Book_stood_by : FnScope ["self", "row", "same"] ["self", "row"] (defScope st_Book_stood_by) := ⟨rfl, rfl, rfl, by decide +kernel, rfl, by decide +kernel, by decide +kernel⟩
theorem sc_Stamps_faces : FnScope ["self"] ["self"] (defScope st_Stamps_faces) := ⟨rfl, rfl, rfl, by decide +kernel, rfl, by decide +kernel, by decide +kernel⟩
theorem sc_otherwise : FnScope ["ahead", "behind", "found", "number", "one", "other", "mine", "its", "name"] ["ahead", "behind"] (defScope st_otherwise) := ⟨rfl, rfl, rfl, by decide +kernel, rfl, by decide +kernel, by decide +kernel⟩
theorem sc_Book_become : FnScope ["self", "row", "behind", "found"] ["self", "row"] (defScope st_Book_become) := ⟨rfl, rfl, rfl, by decide +kernel, rfl, by decide +kernel, by decide +kernel⟩
theorem sc_Book_back : FnScope ["self"] ["self"] (defScope st_Book_back) := ⟨rfl, rfl, rfl, by decide +kernel, rfl, by decide +kernel, by decide +kernel⟩
theorem sc_Book_again : FnScope ["self"] ["self"] (defScope st_Book_again) := ⟨rfl, rfl, rfl, by decide +kernel, rfl, by decide +kernel, by decide +kernel⟩
theorem sc__law_deed : FnScope ["bag", "box", "names", "name", "way_of", "others", "spins", "one"] ["bag", "box", "names"] (defScope st__law_deed) := ⟨rfl, rfl, rfl, by decide +kernel, rfl, by decide +kernel, by decide +kernel⟩
theorem sc__law_doing : FnScope ["bag", "box", "names", "many", "deed", "way_of"] ["bag", "box", "names", "many"] (defScope st__law_doing) := ⟨rfl, rfl, rfl, by decide +kernel, rfl, by decide +kernel, by decide +kernel⟩
theorem sc__law_row_by : FnScope ["row", "doing", "at"] ["row", "doing"] (defScope st__law_row_by) := ⟨rfl, rfl, rfl, by decide +kernel, rfl, by decide +kernel, by decide +kernel⟩
theorem sc_Book_need_room : FnScope ["self"] ["self"] (defScope st_Book_need_room) := ⟨rfl, rfl, rfl, by decide +kernel, rfl, by decide +kernel, by decide +kernel⟩
theorem sc_Book_changed : FnScope ["self", "row"] ["self", "row"] (defScope st_Book_changed) := ⟨rfl, rfl, rfl, by decide +kernel, rfl, by decide +kernel, by decide +kernel⟩
theorem sc_Book_do : FnScope ["self", "deed"] ["self", "deed"] (defScope st_Book_do) := ⟨rfl, rfl, rfl, by decide +kernel, rfl, by decide +kernel, by decide +kernel⟩
theorem sc_is_whole : FnScope ["thing"] ["thing"] (defScope st_is_whole) := ⟨rfl, rfl, rfl, by decide +kernel, rfl, by decide +kernel, by decide +kernel⟩
theorem sc_is_from_none : FnScope ["thing"] ["thing"] (defScope st_is_from_none) := ⟨rfl, rfl, rfl, by decide +kernel, rfl, by decide +kernel, by decide +kernel⟩
theorem sc_Book_need_there : FnScope ["self", "at", "most"] ["self", "at", "most"] (defScope st_Book_need_there) := ⟨rfl, rfl, rfl, by decide +kernel, rfl, by decide +kernel, by decide +kernel⟩
theorem sc_Book_put_row : FnScope ["self", "at", "deed"] ["self", "at", "deed"] (defScope st_Book_put_row) := ⟨rfl, rfl, rfl, by decide +kernel, rfl, by decide +kernel, by decide +kernel⟩
theorem sc_Book_put : FnScope ["self", "at", "deed"] ["self", "at", "deed"] (defScope st_Book_put) := ⟨rfl, rfl, rfl, by decide +kernel, rfl, by decide +kernel, by decide +kernel⟩
theorem sc_Book_slip : FnScope ["self", "at", "deed"] ["self", "at", "deed"] (defScope st_Book_slip) := ⟨rfl, rfl, rfl, by decide +kernel, rfl, by decide +kernel, by decide +kernel⟩
theorem sc_Book_take : FnScope ["self", "at"] ["self", "at"] (defScope st_Book_take) := ⟨rfl, rfl, rfl, by decide +kernel, rfl, by decide +kernel, by decide +kernel⟩
theorem sc__law_told_by : FnScope ["book", "doing"] ["book", "doing"] (defScope st__law_told_by) := ⟨rfl, rfl, rfl, by decide +kernel, rfl, by decide +kernel, by decide +kernel⟩
theorem sc__law_done : FnScope ["faces", "deed", "later"] ["faces", "deed"] (defScope st__law_done) := ⟨rfl, rfl, rfl, by decide +kernel, rfl, by decide +kernel, by decide +kernel⟩
theorem sc__law_stood : FnScope ["faces", "row", "found", "deed"] ["faces", "row"] (defScope st__law_stood) := ⟨rfl, rfl, rfl, by decide +kernel, rfl, by decide +kernel, by decide +kernel⟩
theorem sc__law_otherwise : FnScope ["ahead", "later", "found", "k", "name"] ["ahead", "later"] (defScope st__law_otherwise) := ⟨rfl, rfl, rfl, by decide +kernel, rfl, by decide +kernel, by decide +kernel⟩
theorem sc__law_changed : FnScope ["bag", "told", "held", "way_of"] ["bag", "told", "held"] (defScope st__law_changed) := ⟨rfl, rfl, rfl, by decide +kernel, rfl, by decide +kernel, by decide +kernel⟩
theorem sc_Book_row : FnScope ["self"] ["self"] (defScope st_Book_row) := ⟨rfl, rfl, rfl, by decide +kernel, rfl, by decide +kernel, by decide +kernel⟩
theorem sc__law_step : FnScope ["bag", "box", "names", "faces", "side", "held", "book", "rows", "at", "way_of", "later", "told", "doing", "del_from"] ["bag", "box", "names", "faces", "side", "held"] (defScope st__law_step) := ⟨rfl, rfl, rfl, by decide +kernel, rfl, by decide +kernel, by decide +kernel⟩
theorem sc_law : FnScope ["script", "bag", "box", "names", "faces", "sides", "held", "k", "told", "due", "row"] ["script"] (defScope st_law) := ⟨rfl, rfl, rfl, by decide +kernel, rfl, by decide +kernel, by decide +kernel⟩
/-! ### 2. the constants -/
def k_FLAT : D := .str "."
def l_HAND_TURNINGS : List Str := ["r1", "r2", "r3"]
def k_HAND_TURNINGS : D := .tup (l_HAND_TURNINGS.map .str)
def k_LETTERS : D := .str "abcdefghijklmnopqrstuvwxyz"
def k_MOST_DEEDS : D := .int 200
def k_MOST_LETTERS : D := .int 8
def k_MOST_SIDE : D := .int 6
def k_MOST_STAMPS : D := .int 6
def k_QUARTERS : D := .int 4
def l_TURNINGS : List Str := ["r0", "r1", "r2", "r3", "m0", "m1", "m2", "m3"]
def k_TURNINGS : D := .tup (l_TURNINGS.map .str)
def k_UP : D := .str "o"
/-! ### 3. the mirrors -/
def s__law_bag : MS := (sRet (eOwn (fLst (aCons (eC (.int 0)) (aCons (eC (.int 1234567891)) (aCons (eC (.int 0)) (aCons (eFrz (fComp (iAny (eSl (eVar 0) oNone (oSome (eC (.int 63))))) (tgN 1) tYesM (e1 gAbs (eVar 1)) [1])) aNil)))))))
def f__law_bag : MF := mfn 2 1 s__law_bag
def s__law_take : MS := (sSeq (sIf (tOf (eBin gEq (eIx (eVar 0) (eC (.int 0))) (eC (.int 0)))) (sSeq (sAsg (tgN 4) (eC (.int 0))) (sSeq (sIf (tOf (eBin gLt (eIx (eVar 0) (eC (.int 2))) (e1 gLen (eIx (eVar 0) (eC (.int 3)))))) (sAsg (tgN 4) (eIx (eIx (eVar 0) (eC (.int 3))) (eIx (eVar 0) (eC (.int 2))))) sNil) (sSeq (sAugL (eVar 0) (eC (.int 2)) (eC (.int 1))) (sSeq (sIf (tOf (eBin gGe (eVar 4) (eC (.int 1000000000000000000)))) (sSubL (eVar 0) (eC (.int 0)) (eVar 4)) sNil) (sSubL (eVar 0) (eC (.int 1)) (eBin gMod (eBin gAdd (eBin gAdd (eBin gMul (eIx (eVar 0) (eC (.int 1))) (eC (.int 48271))) (eBin gMod (eVar 4) (eC (.int 2147483647)))) (eBin gMul (eC (.int 7919)) (eIx (eVar 0) (eC (.int 2))))) (eC (.int 2147483647)))))))) sNil) (sSeq (sIf (tOf (eBin gGt (eIx (eVar 0) (eC (.int 0))) (eC (.int 0)))) (sSeq (sAsg (tgN 5) (eBin gMod (eIx (eVar 0) (eC (.int 0))) (eVar 1))) (sSeq (sSubL (eVar 0) (eC (.int 0)) (eBin gDiv (eIx (eVar 0) (eC (.int 0))) (eVar 1))) (sRet (eVar 5)))) sNil) (sSeq (sAsg (tgN 2) (eBin gMod (eBin gMul (eBin gAdd (eIx (eVar 0) (eC (.int 1))) (eC (.int 1))) (eC (.int 39373))) (eC (.int 1000000007)))) (sSeq (sAsg (tgN 3) (eBin gMod (eBin gMul (eBin gMod (eBin gMul (eVar 2) (eVar 2)) (eC (.int 998244353))) (eC (.int 30011))) (eC (.int 998244353)))) (sSeq (sIf (tOf (eBin gGt (eVar 1) (eC (.int 1000000)))) (sRet (eBin gMod (eBin gAdd (eBin gMul (eVar 3) (eC (.int 1000000007))) (eVar 2)) (eVar 1))) sNil) (sRet (eBin gMod (eBin gDiv (eVar 3) (eC (.int 7))) (eVar 1))))))))
def f__law_take : MF := mfn 6 2 s__law_take
def s__law_box : MS := (sSeq (sAsg (tgN 2) (eBin gAdd (eC (.int 1)) (eCall f__law_take (aCons (eVar 0) (aCons (eVar 1) aNil))))) (sRet (eTup (aCons (eVar 2) (aCons (eIx (eFrz (fLst (aCons (eVar 2) (aCons (eVar 2) (aCons (eBin gAdd (eC (.int 1)) (eCall f__law_take (aCons (eVar 0) (aCons (eVar 1) aNil)))) aNil))))) (eCall f__law_take (aCons (eVar 0) (aCons (eC (.int 3)) aNil)))) aNil)))))
def f__law_box : MF := mfn 3 2 s__law_box
def s__law_names : MS := (sSeq (sAsg (tgN 2) (eC (.str "abcdefghijklmnopqrstuvwxyz"))) (sSeq (sAsg (tgN 3) (eBin gMul (eIx (eVar 2) (eCall f__law_take (aCons (eVar 0) (aCons (eC (.int 26)) aNil)))) (eBin gAdd (eC (.int 1)) (eCall f__law_take (aCons (eVar 0) (aCons (eC (.int 8)) aNil)))))) (sSeq (sAsg (tgN 4) (eCall f__law_take (aCons (eVar 0) (aCons (e1 gLen (eVar 3)) aNil)))) (sSeq (sAsg (tgN 5) (eCall f__law_take (aCons (eVar 0) (aCons (eC (.int 26)) aNil)))) (sSeq (sIf (tOf (eBin gEq (eVar 5) (eC (.int 25)))) (sSeq (sAsg (tgN 7) (eFrz (fLst (aCons (eC (.str "cut")) (aCons (eC (.str "press")) (aCons (eC (.str "print")) (aCons (eC (.str "turn")) (aCons (eC (.str "cuts")) (aCons (eC (.str "o")) aNil))))))))) (sRet (eSl (eBin gAdd (eSl (eVar 7) (oSome (eBin gMod (eVar 4) (eC (.int 6)))) oNone) (eSl (eVar 7) oNone (oSome (eBin gMod (eVar 4) (eC (.int 6)))))) oNone (oSome (eVar 1))))) sNil) (sSeq (sAsg (tgN 6) (eFrz (fComp (iRng1M (eVar 1)) (tgN 8) tYesM (eBin gAdd (eBin gAdd (eSl (eVar 3) oNone (oSome (eVar 4))) (eIx (eVar 2) (eBin gMod (eBin gAdd (eVar 5) (eBin gMul (eC (.int 7)) (eVar 8))) (eC (.int 26))))) (eSl (eVar 3) (oSome (eBin gAdd (eVar 4) (eC (.int 1)))) oNone)) [8]))) (sRet (eFrz (fComp (iRng1M (eVar 1)) (tgN 8) tYesM (eBin gAdd (eIx (eVar 6) (eVar 8)) (eBin gMul (eSl (eVar 3) oNone (oSome (eC (.int 1)))) (eBin gMul (eBin gMod (eVar 8) (eC (.int 2))) (e1 gInt (eBin gLt (e1 gLen (eVar 3)) (eC (.int 8))))))) [8])))))))))
def f__law_names : MF := mfn 9 2 s__law_names
def s__law_face : MS := (sSeq (sAsg (tgN 2) (eIx (eFrz (fLst (aCons (eC (.int 9)) (aCons (eC (.int 5)) (aCons (eC (.int 3)) (aCons (eC (.int 2)) (aCons (eC (.int 2)) (aCons (eC (.int 1)) aNil)))))))) (eCall f__law_take (aCons (eVar 0) (aCons (eC (.int 6)) aNil))))) (sSeq (sAsg (tgN 3) (eFrz (fComp (iRng1M (eIx (eVar 1) (eC (.int 1)))) (tgN 5) tYesM (eJoin (eC (.str "")) (eFrz (fComp (iRng1M (eIx (eVar 1) (eC (.int 0)))) (tgN 6) tYesM (eIx (eC (.str ".o")) (e1 gInt (eBin gEq (eCall f__law_take (aCons (eVar 0) (aCons (eVar 2) aNil))) (eC (.int 0))))) [6]))) [5]))) (sSeq (sAsg (tgN 4) (eTup (aCons (eCall f__law_take (aCons (eVar 0) (aCons (eIx (eVar 1) (eC (.int 0))) aNil))) (aCons (eCall f__law_take (aCons (eVar 0) (aCons (eIx (eVar 1) (eC (.int 1))) aNil))) aNil)))) (sSeq (sIf (tOf (eBin gEq (eVar 2) (eC (.int 9)))) (sAsg (tgN 3) (eFrz (fComp (iRng1M (eIx (eVar 1) (eC (.int 1)))) (tgN 5) tYesM (eJoin (eC (.str "")) (eFrz (fComp (iRng1M (eIx (eVar 1) (eC (.int 0)))) (tgN 6) tYesM (eIx (eC (.str ".o")) (e1 gInt (eBin gEq (eTup (aCons (eVar 6) (aCons (eVar 5) aNil))) (eVar 4)))) [6]))) [5]))) sNil) (sSeq (sIf (tAndM (tOf (eBin gEq (eVar 2) (eC (.int 5)))) (tOf (eBin gEq (eIx (eVar 4) (eC (.int 0))) (eC (.int 0))))) (sAsg (tgN 3) (eBin gMul (eFrz (fLst (aCons (eBin gMul (eC (.str ".")) (eIx (eVar 1) (eC (.int 0)))) aNil))) (eIx (eVar 1) (eC (.int 1))))) sNil) (sRet (e1 gTuple (eVar 3))))))))
def f__law_face : MF := mfn 7 2 s__law_face
def s__law_turnings : MS := (sSeq (sIf (tOf (eBin gEq (eIx (eVar 0) (eC (.int 0))) (eIx (eVar 0) (eC (.int 1))))) (sRet (eFrz (fLst (aCons (eC (.str "m0")) (aCons (eC (.str "m1")) (aCons (eC (.str "m2")) (aCons (eC (.str "m3")) (aCons (eC (.str "r0")) (aCons (eC (.str "r1")) (aCons (eC (.str "r2")) (aCons (eC (.str "r3")) aNil))))))))))) sNil) (sRet (eFrz (fLst (aCons (eC (.str "m0")) (aCons (eC (.str "m2")) (aCons (eC (.str "r0")) (aCons (eC (.str "r2")) aNil))))))))
def f__law_turnings : MF := mfn 1 1 s__law_turnings
def s__law_spun : MS := (sSeq (sAsg (tgN 2) (eOwn (fLst aNil))) (sSeq (sFor (iRng1M (e1 gLen (eVar 0))) (tgN 3) (sExpr (eMut gExtend (eVar 2) (aCons (eFrz (fComp (iRng1M (e1 gLen (eIx (eVar 0) (eVar 3)))) (tgN 7) (tOf (eBin gEq (eIx (eIx (eVar 0) (eVar 3)) (eVar 7)) (eC (.str "o")))) (eTup (aCons (eVar 7) (aCons (eVar 3) aNil))) [7])) aNil)))) (sFrz 2 (sSeq (sAsg (tgT (tgCons (tgN 4) (tgCons (tgN 5) tgNil))) (eTup (aCons (e1 gLen (eIx (eVar 0) (eC (.int 0)))) (aCons (e1 gLen (eVar 0)) aNil)))) (sSeq (sIf (tOf (eBin gEq (eIx (eVar 1) (eC (.int 0))) (eC (.str "m")))) (sAsg (tgN 2) (eFrz (fComp (iAny (eVar 2)) (tgT (tgCons (tgN 7) (tgCons (tgN 3) tgNil))) tYesM (eTup (aCons (eBin gSub (eBin gSub (eVar 4) (eC (.int 1))) (eVar 7)) (aCons (eVar 3) aNil))) [7, 3]))) sNil) (sSeq (sFor (iRng1M (eSIndex (eC (.str "0123")) (eIx (eVar 1) (eC (.int 1))))) (tgN 6) (sSeq (sAsg (tgN 2) (eFrz (fComp (iAny (eVar 2)) (tgT (tgCons (tgN 7) (tgCons (tgN 3) tgNil))) tYesM (eTup (aCons (eBin gSub (eBin gSub (eVar 5) (eC (.int 1))) (eVar 3)) (aCons (eVar 7) aNil))) [7, 3]))) (sAsg (tgT (tgCons (tgN 4) (tgCons (tgN 5) tgNil))) (eTup (aCons (eVar 5) (aCons (eVar 4) aNil)))))) (sRet (e1 gTuple (eFrz (fComp (iRng1M (eVar 5)) (tgN 3) tYesM (eJoin (eC (.str "")) (eFrz (fComp (iRng1M (eVar 4)) (tgN 7) tYesM (eIx (eC (.str ".o")) (e1 gInt (eBin gIn (eTup (aCons (eVar 7) (aCons (eVar 3) aNil))) (eVar 2)))) [7]))) [3]))))))))))
def f__law_spun : MF := mfn 8 2 s__law_spun
def s__law_over : MS := (sSeq (sAsg (tgN 2) (eOwn (fLst aNil))) (sSeq (sFor (iRng1M (e1 gLen (eVar 0))) (tgN 3) (sExpr (eMut gAppend (eVar 2) (aCons (eJoin (eC (.str "")) (eFrz (fComp (iRng1M (e1 gLen (eIx (eVar 0) (eVar 3)))) (tgN 4) tYesM (eIx (eC (.str ".o")) (e1 gInt (eBin gNe (eIx (eIx (eVar 0) (eVar 3)) (eVar 4)) (eIx (eIx (eVar 1) (eVar 3)) (eVar 4))))) [4]))) aNil)))) (sRet (e1 gTuple (eVar 2)))))
def f__law_over : MF := mfn 5 2 s__law_over
def s__law_faces : MS := (sSeq (sAsg (tgN 3) (eOwnD dNew)) (sSeq (sAsg (tgN 4) (eOwn (fLst (aCons (eCall f__law_face (aCons (eVar 0) (aCons (eVar 1) aNil))) aNil)))) (sSeq (sFor (iAny (eVar 2)) (tgN 5) (sSeq (sAsg (tgN 6) (eCall f__law_take (aCons (eVar 0) (aCons (eC (.int 6)) aNil)))) (sSeq (sAsg (tgN 7) (eIx (eVar 4) (eCall f__law_take (aCons (eVar 0) (aCons (e1 gLen (eVar 4)) aNil))))) (sSeq (sIf (tOf (eBin gEq (eVar 6) (eC (.int 0)))) (sSubD (eVar 3) (eVar 5) (e1 gTuple (eBin gMul (eFrz (fLst (aCons (eBin gMul (eC (.str ".")) (eIx (eVar 1) (eC (.int 0)))) aNil))) (eIx (eVar 1) (eC (.int 1)))))) (sIf (tOf (eBin gLt (eVar 6) (eC (.int 3)))) (sSubD (eVar 3) (eVar 5) (eCall f__law_face (aCons (eVar 0) (aCons (eVar 1) aNil)))) (sIf (tOf (eBin gEq (eVar 6) (eC (.int 3)))) (sSubD (eVar 3) (eVar 5) (eVar 7)) (sSeq (sAsg (tgN 8) (eCall f__law_turnings (aCons (eVar 1) aNil))) (sSeq (sSubD (eVar 3) (eVar 5) (eCall f__law_spun (aCons (eVar 7) (aCons (eIx (eVar 8) (eCall f__law_take (aCons (eVar 0) (aCons (e1 gLen (eVar 8)) aNil)))) aNil)))) (sIf (tOf (eBin gEq (eVar 6) (eC (.int 5)))) (sSubD (eVar 3) (eVar 5) (eCall f__law_over (aCons (eIx (eVar 3) (eVar 5)) (aCons (eIx (eVar 4) (eCall f__law_take (aCons (eVar 0) (aCons (e1 gLen (eVar 4)) aNil)))) aNil)))) sNil)))))) (sExpr (eMut gAppend (eVar 4) (aCons (eIx (eVar 3) (eVar 5)) aNil))))))) (sRet (eFreeze (eVar 3))))))
def f__law_faces : MF := mfn 9 3 s__law_faces
def s_is_name : MS := (sSeq (sIf (tOrM (tNotM (tOf (eIsB "str" (eVar 0)))) (tNotM (tOf (eChain gLe gLe (eC (.int 1)) (e1 gLen (eVar 0)) (eC k_MOST_LETTERS))))) (sRet (eC (.bl false))) sNil) (sRet (e1 gAll (eFrz (fComp (iAny (eVar 0)) (tgN 1) tYesM (eBin gIn (eVar 1) (eC k_LETTERS)) [1])))))
def f_is_name : MF := mfn 2 1 s_is_name
def s_is_face_row : MS := (sSeq (sIf (tOrM (tNotM (tOf (eIsB "str" (eVar 0)))) (tNotM (tOf (eChain gLe gLe (eC (.int 1)) (e1 gLen (eVar 0)) (eC k_MOST_SIDE))))) (sRet (eC (.bl false))) sNil) (sRet (e1 gAll (eFrz (fComp (iAny (eVar 0)) (tgN 1) tYesM (eOr (eBin gEq (eVar 1) (eC k_UP)) (eBin gEq (eVar 1) (eC k_FLAT))) [1])))))
def f_is_face_row : MF := mfn 2 1 s_is_face_row
def s_is_face : MS := (sSeq (sIf (tOrM (tNotM (tOf (eIsB "tuple" (eVar 0)))) (tNotM (tOf (eChain gLe gLe (eC (.int 1)) (e1 gLen (eVar 0)) (eC k_MOST_SIDE))))) (sRet (eC (.bl false))) sNil) (sRet (eAnd (e1 gAll (eFrz (fComp (iAny (eVar 0)) (tgN 1) tYesM (eCall f_is_face_row (aCons (eVar 1) aNil)) [1]))) (e1 gAll (eFrz (fComp (iAny (eVar 0)) (tgN 1) tYesM (eBin gEq (e1 gLen (eVar 1)) (e1 gLen (eIx (eVar 0) (eC (.int 0))))) [1]))))))
def f_is_face : MF := mfn 2 1 s_is_face
def s_box_of : MS := (sRet (eTup (aCons (e1 gLen (eIx (eVar 0) (eC (.int 0)))) (aCons (e1 gLen (eVar 0)) aNil))))
def f_box_of : MF := mfn 1 1 s_box_of
def s_are_faces : MS := (sSeq (sIf (tOrM (tNotM (tOf (eIsB "dict" (eVar 0)))) (tNotM (tOf (eChain gLe gLe (eC (.int 1)) (e1 gLen (eVar 0)) (eC k_MOST_STAMPS))))) (sRet (eC (.bl false))) sNil) (sSeq (sFor (iAny (eVar 0)) (tgN 1) (sIf (tOrM (tNotM (tOf (eCall f_is_name (aCons (eVar 1) aNil)))) (tNotM (tOf (eCall f_is_face (aCons (eIx (eVar 0) (eVar 1)) aNil))))) (sRet (eC (.bl false))) sNil)) (sSeq (sAsg (tgN 2) (eFrz (fComp (iAny (eVar 0)) (tgN 1) tYesM (eCall f_box_of (aCons (eIx (eVar 0) (eVar 1)) aNil)) [1]))) (sRet (e1 gAll (eFrz (fComp (iAny (eVar 2)) (tgN 3) tYesM (eBin gEq (eVar 3) (eIx (eVar 2) (eC (.int 0)))) [3])))))))
def f_are_faces : MF := mfn 4 1 s_are_faces
def s_Stamps___init__ : MS := (sSeq (sIf (tNotM (tOf (eCall f_are_faces (aCons (eVar 1) aNil)))) sNever sNil) (sFldM ["Stamps"] "held" (eVar 0) (eFreeze (eDComp (iAny (eFrz (f1 gSorted (eVar 1)))) (tgN 2) tYesM (eVar 2) (eIx (eVar 1) (eVar 2)) [2]))))
def f_Stamps___init__ : MF := mfn 3 2 s_Stamps___init__
def s_good_or_wrong : MS := (sIf (tNotM (tOf (eVar 1))) sNever sNil)
def f_good_or_wrong : MF := mfn 2 2 s_good_or_wrong
def s_Book___init__ : MS := (sSeq (sExpr (eCall f_good_or_wrong (aCons (eC (.int 0)) (aCons (eIsC "Stamps" (eVar 1)) aNil)))) (sSeq (sFldM ["Book"] "begun" (eVar 0) (eVar 1)) (sSeq (sFldM ["Book"] "deeds" (eVar 0) (eFrz (fLst aNil))) (sSeq (sFldM ["Book"] "stood" (eVar 0) (eFrz (fLst (aCons (eVar 1) aNil)))) (sSeq (sFldM ["Book"] "past" (eVar 0) (eOwn (fLst aNil))) (sFldM ["Book"] "undone_rows" (eVar 0) (eOwn (fLst aNil))))))))
def f_Book___init__ : MF := mfn 2 2 s_Book___init__
def s_Book_copied : MS := (sSeq (sAsg (tgN 1) (eMake "Book" f_Book___init__ (aCons (eFld ["Book"] "begun" (eVar 0)) aNil))) (sSeq (sFldM ["Book"] "deeds" (eVar 1) (eFrz (f1 gList (eFld ["Book"] "deeds" (eVar 0))))) (sSeq (sFldM ["Book"] "stood" (eVar 1) (eFrz (f1 gList (eFld ["Book"] "stood" (eVar 0))))) (sSeq (sFldM ["Book"] "past" (eVar 1) (eOwn (f1 gList (eFld ["Book"] "past" (eVar 0))))) (sSeq (sFldM ["Book"] "undone_rows" (eVar 1) (eOwn (f1 gList (eFld ["Book"] "undone_rows" (eVar 0))))) (sRet (eVar 1)))))))
def f_Book_copied : MF := mfn 2 1 s_Book_copied
def s_Book_length : MS := (sRet (e1 gLen (eFld ["Book"] "deeds" (eVar 0))))
def f_Book_length : MF := mfn 1 1 s_Book_length
def s_is_hand_turning : MS := (sRet (eAnd (eIsB "str" (eVar 0)) (eBin gIn (eVar 0) (eC k_HAND_TURNINGS))))
def f_is_hand_turning : MF := mfn 1 1 s_is_hand_turning
def s_is_deed : MS := (sSeq (sIf (tOrM (tNotM (tOf (eIsB "tuple" (eVar 0)))) (tOrM (tNotM (tOf (eChain gLe gLe (eC (.int 2)) (e1 gLen (eVar 0)) (eC (.int 3))))) (tNotM (tOf (eIsB "str" (eIx (eVar 0) (eC (.int 0)))))))) (sRet (eC (.bl false))) sNil) (sSeq (sIf (tNotM (tOf (eCall f_is_name (aCons (eIx (eVar 0) (eC (.int 1))) aNil)))) (sRet (eC (.bl false))) sNil) (sSeq (sIf (tOf (eBin gEq (e1 gLen (eVar 0)) (eC (.int 2)))) (sRet (eBin gEq (eIx (eVar 0) (eC (.int 0))) (eC (.str "print")))) sNil) (sSeq (sIf (tOf (eBin gEq (eIx (eVar 0) (eC (.int 0))) (eC (.str "press")))) (sRet (eAnd (eCall f_is_name (aCons (eIx (eVar 0) (eC (.int 2))) aNil)) (eBin gNe (eIx (eVar 0) (eC (.int 1))) (eIx (eVar 0) (eC (.int 2)))))) sNil) (sSeq (sIf (tOf (eBin gEq (eIx (eVar 0) (eC (.int 0))) (eC (.str "turn")))) (sRet (eCall f_is_hand_turning (aCons (eIx (eVar 0) (eC (.int 2))) aNil))) sNil) (sRet (eAnd (eBin gEq (eIx (eVar 0) (eC (.int 0))) (eC (.str "cut"))) (eCall f_is_face (aCons (eIx (eVar 0) (eC (.int 2))) aNil)))))))))
def f_is_deed : MF := mfn 1 1 s_is_deed
def s_names_in : MS := (sSeq (sIf (tOf (eBin gEq (eIx (eVar 0) (eC (.int 0))) (eC (.str "press")))) (sRet (eFrz (fLst (aCons (eIx (eVar 0) (eC (.int 1))) (aCons (eIx (eVar 0) (eC (.int 2))) aNil))))) sNil) (sRet (eFrz (fLst (aCons (eIx (eVar 0) (eC (.int 1))) aNil)))))
def f_names_in : MF := mfn 1 1 s_names_in
def s_Stamps_names : MS := (sRet (eFrz (f1 gList (eFld ["Stamps"] "held" (eVar 0)))))
def f_Stamps_names : MF := mfn 1 1 s_Stamps_names
def s_Stamps_box : MS := (sRet (eCall f_box_of (aCons (eIx (eFld ["Stamps"] "held" (eVar 0)) (eIx (eMeth [("Stamps", f_Stamps_names)] "names" (eVar 0) aNil) (eC (.int 0)))) aNil)))
def f_Stamps_box : MF := mfn 1 1 s_Stamps_box
def s_quarters : MS := (sRet (eBin gMod (eTIndex l_TURNINGS (eVar 0)) (eC k_QUARTERS)))
def f_quarters : MF := mfn 1 1 s_quarters
def s_has_turning : MS := (sRet (eOr (eBin gEq (eIx (eVar 0) (eC (.int 0))) (eIx (eVar 0) (eC (.int 1)))) (eBin gEq (eBin gMod (eCall f_quarters (aCons (eVar 1) aNil)) (eC (.int 2))) (eC (.int 0)))))
def f_has_turning : MF := mfn 2 2 s_has_turning
def s_Stamps_need_deed : MS := (sSeq (sFor (iAny (eCall f_names_in (aCons (eVar 1) aNil))) (tgN 2) (sIf (tOf (eBin gNotIn (eVar 2) (eFld ["Stamps"] "held" (eVar 0)))) sNever sNil)) (sSeq (sIf (tAndM (tOf (eBin gEq (eIx (eVar 1) (eC (.int 0))) (eC (.str "turn")))) (tNotM (tOf (eCall f_has_turning (aCons (eMeth [("Stamps", f_Stamps_box)] "box" (eVar 0) aNil) (aCons (eIx (eVar 1) (eC (.int 2))) aNil)))))) sNever sNil) (sIf (tAndM (tOf (eBin gEq (eIx (eVar 1) (eC (.int 0))) (eC (.str "cut")))) (tOf (eBin gNe (eCall f_box_of (aCons (eIx (eVar 1) (eC (.int 2))) aNil)) (eMeth [("Stamps", f_Stamps_box)] "box" (eVar 0) aNil)))) sNever sNil)))
def f_Stamps_need_deed : MF := mfn 3 2 s_Stamps_need_deed
def s_mirrored : MS := (sRet (e1 gTuple (eFrz (fComp (iAny (eVar 0)) (tgN 1) tYesM (eRv (eVar 1)) [1]))))
def f_mirrored : MF := mfn 2 1 s_mirrored
def s_laid_sign : MS := (sSeq (sIf (tOf (eBin gEq (eVar 0) (eVar 1))) (sRet (eC k_FLAT)) sNil) (sRet (eC k_UP)))
def f_laid_sign : MF := mfn 2 2 s_laid_sign
def s_laid_two : MS := (sSeq (sAsg (tgN 2) (eOwn (fLst aNil))) (sSeq (sFor (iZipM (eVar 0) (eVar 1)) (tgT (tgCons (tgN 3) (tgCons (tgN 4) tgNil))) (sExpr (eMut gAppend (eVar 2) (aCons (eJoin (eC (.str "")) (eFrz (fComp (iZipM (eVar 3) (eVar 4)) (tgT (tgCons (tgN 5) (tgCons (tgN 6) tgNil))) tYesM (eCall f_laid_sign (aCons (eVar 5) (aCons (eVar 6) aNil))) [5, 6]))) aNil)))) (sRet (e1 gTuple (eVar 2)))))
def f_laid_two : MF := mfn 7 2 s_laid_two
def s_exchanges : MS := (sRet (eBin gEq (eIx (eVar 0) (eC (.int 0))) (eC (.str "m"))))
def f_exchanges : MF := mfn 1 1 s_exchanges
def s_quarter_turned : MS := (sRet (e1 gTuple (eFrz (fComp (iRng1M (e1 gLen (eIx (eVar 0) (eC (.int 0))))) (tgN 1) tYesM (eJoin (eC (.str "")) (eFrz (fComp (iAny (eRv (eVar 0))) (tgN 2) tYesM (eIx (eVar 2) (eVar 1)) [2]))) [1]))))
def f_quarter_turned : MF := mfn 3 1 s_quarter_turned
def s_turned : MS := (sSeq (sIf (tOf (eCall f_exchanges (aCons (eVar 1) aNil))) (sAsg (tgN 0) (eCall f_mirrored (aCons (eVar 0) aNil))) sNil) (sSeq (sFor (iRng1M (eCall f_quarters (aCons (eVar 1) aNil))) (tgN 2) (sAsg (tgN 0) (eCall f_quarter_turned (aCons (eVar 0) aNil)))) (sRet (eVar 0))))
def f_turned : MF := mfn 3 2 s_turned
def s_Stamps_face_behind : MS := (sSeq (sIf (tOf (eBin gEq (eIx (eVar 1) (eC (.int 0))) (eC (.str "press")))) (sRet (eCall f_laid_two (aCons (eIx (eFld ["Stamps"] "held" (eVar 0)) (eIx (eVar 1) (eC (.int 2)))) (aCons (eCall f_mirrored (aCons (eIx (eFld ["Stamps"] "held" (eVar 0)) (eIx (eVar 1) (eC (.int 1)))) aNil)) aNil)))) sNil) (sSeq (sIf (tOf (eBin gEq (eIx (eVar 1) (eC (.int 0))) (eC (.str "turn")))) (sRet (eCall f_turned (aCons (eIx (eFld ["Stamps"] "held" (eVar 0)) (eIx (eVar 1) (eC (.int 1)))) (aCons (eIx (eVar 1) (eC (.int 2))) aNil)))) sNil) (sSeq (sIf (tOf (eBin gEq (eIx (eVar 1) (eC (.int 0))) (eC (.str "cut")))) (sRet (eIx (eVar 1) (eC (.int 2)))) sNil) (sRet (eIx (eFld ["Stamps"] "held" (eVar 0)) (eIx (eVar 1) (eC (.int 1))))))))
def f_Stamps_face_behind : MF := mfn 2 2 s_Stamps_face_behind
def s_Stamps_done : MS := (sSeq (sIf (tNotM (tOf (eCall f_is_deed (aCons (eVar 1) aNil)))) sNever sNil) (sSeq (sExpr (eMeth [("Stamps", f_Stamps_need_deed)] "need_deed" (eVar 0) (aCons (eVar 1) aNil))) (sSeq (sAsg (tgN 2) (eOwnD (dDict (eFld ["Stamps"] "held" (eVar 0))))) (sSeq (sSubD (eVar 2) (eIx (eCall f_names_in (aCons (eVar 1) aNil)) (eNeg (eC (.int 1)))) (eMeth [("Stamps", f_Stamps_face_behind)] "face_behind" (eVar 0) (aCons (eVar 1) aNil))) (sFrz 2 (sRet (eMkF "Stamps" f_Stamps___init__ (aCons (eVar 2) aNil))))))))
def f_Stamps_done : MF := mfn 3 2 s_Stamps_done
def s_done_at : MS := (sRet (eMeth [("Stamps", f_Stamps_done)] "done" (eVar 0) (aCons (eVar 2) aNil)))
def f_done_at : MF := mfn 3 3 s_done_at
def s_standings_behind : MS := (sSeq (sAsg (tgN 2) (eOwn (fLst (aCons (eVar 0) aNil)))) (sSeq (sFor (iEnumM (eVar 1)) (tgT (tgCons (tgN 3) (tgCons (tgN 4) tgNil))) (sExpr (eMut gAppend (eVar 2) (aCons (eCall f_done_at (aCons (eIx (eVar 2) (eNeg (eC (.int 1)))) (aCons (eVar 3) (aCons (eVar 4) aNil)))) aNil)))) (sRet (eFreeze (eVar 2)))))
def f_standings_behind : MF := mfn 5 2 s_standings_behind
def s_Book_stood_by : MS := (sSeq (sAsg (tgN 2) (eC (.int 0))) (sSeq (whGo (tAndM (tOf (eBin gLt (eVar 2) (eBin gMin (e1 gLen (eVar 1)) (eMeth [("Book", f_Book_length)] "length" (eVar 0) aNil)))) (tOf (eBin gEq (eIx (eVar 1) (eVar 2)) (eIx (eFld ["Book"] "deeds" (eVar 0)) (eVar 2))))) (sAsg (tgN 2) (eBin gAdd (eVar 2) (eC (.int 1)))) 100000) (sRet (eBin gAdd (eSl (eFld ["Book"] "stood" (eVar 0)) oNone (oSome (eVar 2))) (eCall f_standings_behind (aCons (eIx (eFld ["Book"] "stood" (eVar 0)) (eVar 2)) (aCons (eSl (eVar 1) (oSome (eVar 2)) oNone) aNil)))))))
def f_Book_stood_by : MF := mfn 3 2 s_Book_stood_by
def s_Stamps_faces : MS := (sRet (eFrzD (dDict (eFld ["Stamps"] "held" (eVar 0)))))
def f_Stamps_faces : MF := mfn 1 1 s_Stamps_faces
def s_otherwise : MS := (sSeq (sAsg (tgN 2) (eOwn (fLst aNil))) (sSeq (sFor (iEZM (eVar 0) (eVar 1)) (tgT (tgCons (tgN 3) (tgCons (tgT (tgCons (tgN 4) (tgCons (tgN 5) tgNil))) tgNil))) (sSeq (sAsg (tgT (tgCons (tgN 6) (tgCons (tgN 7) tgNil))) (eTup (aCons (eMeth [("Stamps", f_Stamps_faces)] "faces" (eVar 4) aNil) (aCons (eMeth [("Stamps", f_Stamps_faces)] "faces" (eVar 5) aNil) aNil)))) (sExpr (eMut gExtend (eVar 2) (aCons (eFrz (fComp (iAny (eVar 6)) (tgN 8) (tOf (eBin gNe (eIx (eVar 6) (eVar 8)) (eIx (eVar 7) (eVar 8)))) (eTup (aCons (eVar 3) (aCons (eVar 8) aNil))) [8])) aNil))))) (sRet (eVar 2))))
def f_otherwise : MF := mfn 9 2 s_otherwise
def s_Book_become : MS := (sSeq (sAsg (tgN 2) (eMeth [("Book", f_Book_stood_by)] "stood_by" (eVar 0) (aCons (eVar 1) aNil))) (sSeq (sAsg (tgN 3) (eCall f_otherwise (aCons (eFld ["Book"] "stood" (eVar 0)) (aCons (eVar 2) aNil)))) (sSeq (sFldM ["Book"] "deeds" (eVar 0) (eVar 1)) (sSeq (sFldM ["Book"] "stood" (eVar 0) (eVar 2)) (sRet (eVar 3))))))
def f_Book_become : MF := mfn 4 2 s_Book_become
def s_Book_back : MS := (sSeq (sIf (tOf (eBin gEq (eFld ["Book"] "past" (eVar 0)) (eFrz (fLst aNil)))) sNever sNil) (sSeq (sExpr (eMut gAppend (eFld ["Book"] "undone_rows" (eVar 0)) (aCons (eFld ["Book"] "deeds" (eVar 0)) aNil))) (sRet (eMeth [("Book", f_Book_become)] "become" (eVar 0) (aCons (eMut gPop (eFld ["Book"] "past" (eVar 0)) aNil) aNil)))))
def f_Book_back : MF := mfn 1 1 s_Book_back
def s_Book_again : MS := (sSeq (sIf (tOf (eBin gEq (eFld ["Book"] "undone_rows" (eVar 0)) (eFrz (fLst aNil)))) sNever sNil) (sSeq (sExpr (eMut gAppend (eFld ["Book"] "past" (eVar 0)) (aCons (eFld ["Book"] "deeds" (eVar 0)) aNil))) (sRet (eMeth [("Book", f_Book_become)] "become" (eVar 0) (aCons (eMut gPop (eFld ["Book"] "undone_rows" (eVar 0)) aNil) aNil)))))
def f_Book_again : MF := mfn 1 1 s_Book_again
def s__law_deed : MS := (sSeq (sAsg (tgN 3) (eIx (eVar 2) (eCall f__law_take (aCons (eVar 0) (aCons (e1 gLen (eVar 2)) aNil))))) (sSeq (sAsg (tgN 4) (eCall f__law_take (aCons (eVar 0) (aCons (eC (.int 10)) aNil)))) (sSeq (sIf (tAndM (tOf (eBin gLt (eVar 4) (eC (.int 5)))) (tOf (eBin gGt (e1 gLen (eVar 2)) (eC (.int 1))))) (sSeq (sAsg (tgN 5) (eFrz (fComp (iAny (eVar 2)) (tgN 7) (tOf (eBin gNe (eVar 7) (eVar 3))) (eVar 7) [7]))) (sRet (eTup (aCons (eC (.str "press")) (aCons (eVar 3) (aCons (eIx (eVar 5) (eCall f__law_take (aCons (eVar 0) (aCons (e1 gLen (eVar 5)) aNil)))) aNil)))))) sNil) (sSeq (sIf (tOf (eBin gLt (eVar 4) (eC (.int 8)))) (sSeq (sAsg (tgN 6) (eIx (eFrz (fLst (aCons (eFrz (fLst (aCons (eC (.str "r2")) aNil))) (aCons (eFrz (fLst (aCons (eC (.str "r1")) (aCons (eC (.str "r2")) (aCons (eC (.str "r3")) aNil))))) aNil)))) (e1 gInt (eBin gEq (eIx (eVar 1) (eC (.int 0))) (eIx (eVar 1) (eC (.int 1))))))) (sRet (eTup (aCons (eC (.str "turn")) (aCons (eVar 3) (aCons (eIx (eVar 6) (eCall f__law_take (aCons (eVar 0) (aCons (e1 gLen (eVar 6)) aNil)))) aNil)))))) sNil) (sSeq (sIf (tOf (eBin gEq (eVar 4) (eC (.int 8)))) (sRet (eTup (aCons (eC (.str "cut")) (aCons (eVar 3) (aCons (eCall f__law_face (aCons (eVar 0) (aCons (eVar 1) aNil))) aNil))))) sNil) (sRet (eTup (aCons (eC (.str "print")) (aCons (eVar 3) aNil)))))))))
def f__law_deed : MF := mfn 8 3 s__law_deed
def s__law_doing : MS := (sSeq (sAsg (tgN 4) (eCall f__law_deed (aCons (eVar 0) (aCons (eVar 1) (aCons (eVar 2) aNil))))) (sSeq (sAsg (tgN 5) (eCall f__law_take (aCons (eVar 0) (aCons (eC (.int 5)) aNil)))) (sSeq (sIf (tOrM (tOf (eBin gLt (eVar 5) (eC (.int 2)))) (tOf (eBin gEq (eVar 3) (eC (.int 0))))) (sRet (eIx (eFrz (fLst (aCons (eTup (aCons (eC (.str "do")) (aCons (eVar 4) aNil))) (aCons (eTup (aCons (eC (.str "slip")) (aCons (eVar 3) (aCons (eVar 4) aNil)))) aNil)))) (eBin gMod (eVar 5) (eC (.int 2))))) sNil) (sSeq (sIf (tOf (eBin gEq (eVar 5) (eC (.int 2)))) (sRet (eTup (aCons (eC (.str "slip")) (aCons (eCall f__law_take (aCons (eVar 0) (aCons (eBin gAdd (eVar 3) (eC (.int 1))) aNil))) (aCons (eVar 4) aNil))))) sNil) (sSeq (sIf (tOf (eBin gEq (eVar 5) (eC (.int 3)))) (sRet (eTup (aCons (eC (.str "put")) (aCons (eCall f__law_take (aCons (eVar 0) (aCons (eVar 3) aNil))) (aCons (eVar 4) aNil))))) sNil) (sRet (eTup (aCons (eC (.str "take")) (aCons (eCall f__law_take (aCons (eVar 0) (aCons (eVar 3) aNil))) aNil)))))))))
def f__law_doing : MF := mfn 6 4 s__law_doing
def s__law_row_by : MS := (sSeq (sIf (tOf (eBin gEq (eIx (eVar 1) (eC (.int 0))) (eC (.str "do")))) (sRet (eBin gAdd (eVar 0) (eFrz (fLst (aCons (eIx (eVar 1) (eC (.int 1))) aNil))))) sNil) (sSeq (sAsg (tgN 2) (eIx (eVar 1) (eC (.int 1)))) (sSeq (sIf (tOf (eBin gEq (eIx (eVar 1) (eC (.int 0))) (eC (.str "take")))) (sRet (eBin gAdd (eSl (eVar 0) oNone (oSome (eVar 2))) (eSl (eVar 0) (oSome (eBin gAdd (eVar 2) (eC (.int 1)))) oNone))) sNil) (sRet (eBin gAdd (eBin gAdd (eSl (eVar 0) oNone (oSome (eVar 2))) (eFrz (fLst (aCons (eIx (eVar 1) (eC (.int 2))) aNil)))) (eSl (eVar 0) (oSome (eBin gAdd (eVar 2) (e1 gInt (eBin gEq (eIx (eVar 1) (eC (.int 0))) (eC (.str "put")))))) oNone))))))
def f__law_row_by : MF := mfn 3 2 s__law_row_by
def s_Book_need_room : MS := (sIf (tOf (eBin gGe (eMeth [("Book", f_Book_length)] "length" (eVar 0) aNil) (eC k_MOST_DEEDS))) sNever sNil)
def f_Book_need_room : MF := mfn 1 1 s_Book_need_room
def s_Book_changed : MS := (sSeq (sExpr (eMut gAppend (eFld ["Book"] "past" (eVar 0)) (aCons (eFld ["Book"] "deeds" (eVar 0)) aNil))) (sSeq (sFldM ["Book"] "undone_rows" (eVar 0) (eOwn (fLst aNil))) (sRet (eMeth [("Book", f_Book_become)] "become" (eVar 0) (aCons (eVar 1) aNil)))))
def f_Book_changed : MF := mfn 2 2 s_Book_changed
def s_Book_do : MS := (sSeq (sExpr (eCall f_good_or_wrong (aCons (eC (.int 0)) (aCons (eCall f_is_deed (aCons (eVar 1) aNil)) aNil)))) (sSeq (sExpr (eMeth [("Stamps", f_Stamps_need_deed)] "need_deed" (eFld ["Book"] "begun" (eVar 0)) (aCons (eVar 1) aNil))) (sSeq (sExpr (eMeth [("Book", f_Book_need_room)] "need_room" (eVar 0) aNil)) (sRet (eMeth [("Book", f_Book_changed)] "changed" (eVar 0) (aCons (eBin gAdd (eFld ["Book"] "deeds" (eVar 0)) (eFrz (fLst (aCons (eVar 1) aNil)))) aNil))))))
def f_Book_do : MF := mfn 2 2 s_Book_do
def s_is_whole : MS := (sRet (eAnd (eIsB "int" (eVar 0)) (eNot (eIsB "bool" (eVar 0)))))
def f_is_whole : MF := mfn 1 1 s_is_whole
def s_is_from_none : MS := (sRet (eAnd (eCall f_is_whole (aCons (eVar 0) aNil)) (eBin gGe (eVar 0) (eC (.int 0)))))
def f_is_from_none : MF := mfn 1 1 s_is_from_none
def s_Book_need_there : MS := (sIf (tOf (eBin gGt (eVar 1) (eVar 2))) sNever sNil)
def f_Book_need_there : MF := mfn 3 3 s_Book_need_there
def s_Book_put_row : MS := (sSeq (sExpr (eCall f_good_or_wrong (aCons (eC (.int 0)) (aCons (eCall f_is_from_none (aCons (eVar 1) aNil)) aNil)))) (sSeq (sExpr (eCall f_good_or_wrong (aCons (eC (.int 1)) (aCons (eCall f_is_deed (aCons (eVar 2) aNil)) aNil)))) (sSeq (sExpr (eMeth [("Stamps", f_Stamps_need_deed)] "need_deed" (eFld ["Book"] "begun" (eVar 0)) (aCons (eVar 2) aNil))) (sSeq (sExpr (eMeth [("Book", f_Book_need_there)] "need_there" (eVar 0) (aCons (eVar 1) (aCons (eBin gSub (eMeth [("Book", f_Book_length)] "length" (eVar 0) aNil) (eC (.int 1))) aNil)))) (sRet (eBin gAdd (eBin gAdd (eSl (eFld ["Book"] "deeds" (eVar 0)) oNone (oSome (eVar 1))) (eFrz (fLst (aCons (eVar 2) aNil)))) (eSl (eFld ["Book"] "deeds" (eVar 0)) (oSome (eBin gAdd (eVar 1) (eC (.int 1)))) oNone)))))))
def f_Book_put_row : MF := mfn 3 3 s_Book_put_row
def s_Book_put : MS := (sRet (eMeth [("Book", f_Book_changed)] "changed" (eVar 0) (aCons (eMeth [("Book", f_Book_put_row)] "put_row" (eVar 0) (aCons (eVar 1) (aCons (eVar 2) aNil))) aNil)))
def f_Book_put : MF := mfn 3 3 s_Book_put
def s_Book_slip : MS := (sSeq (sExpr (eCall f_good_or_wrong (aCons (eC (.int 0)) (aCons (eCall f_is_from_none (aCons (eVar 1) aNil)) aNil)))) (sSeq (sExpr (eCall f_good_or_wrong (aCons (eC (.int 1)) (aCons (eCall f_is_deed (aCons (eVar 2) aNil)) aNil)))) (sSeq (sExpr (eMeth [("Stamps", f_Stamps_need_deed)] "need_deed" (eFld ["Book"] "begun" (eVar 0)) (aCons (eVar 2) aNil))) (sSeq (sExpr (eMeth [("Book", f_Book_need_there)] "need_there" (eVar 0) (aCons (eVar 1) (aCons (eMeth [("Book", f_Book_length)] "length" (eVar 0) aNil) aNil)))) (sSeq (sExpr (eMeth [("Book", f_Book_need_room)] "need_room" (eVar 0) aNil)) (sRet (eMeth [("Book", f_Book_changed)] "changed" (eVar 0) (aCons (eBin gAdd (eBin gAdd (eSl (eFld ["Book"] "deeds" (eVar 0)) oNone (oSome (eVar 1))) (eFrz (fLst (aCons (eVar 2) aNil)))) (eSl (eFld ["Book"] "deeds" (eVar 0)) (oSome (eVar 1)) oNone)) aNil))))))))
def f_Book_slip : MF := mfn 3 3 s_Book_slip
def s_Book_take : MS := (sSeq (sExpr (eCall f_good_or_wrong (aCons (eC (.int 0)) (aCons (eCall f_is_from_none (aCons (eVar 1) aNil)) aNil)))) (sSeq (sExpr (eMeth [("Book", f_Book_need_there)] "need_there" (eVar 0) (aCons (eVar 1) (aCons (eBin gSub (eMeth [("Book", f_Book_length)] "length" (eVar 0) aNil) (eC (.int 1))) aNil)))) (sRet (eMeth [("Book", f_Book_changed)] "changed" (eVar 0) (aCons (eBin gAdd (eSl (eFld ["Book"] "deeds" (eVar 0)) oNone (oSome (eVar 1))) (eSl (eFld ["Book"] "deeds" (eVar 0)) (oSome (eBin gAdd (eVar 1) (eC (.int 1)))) oNone)) aNil)))))
def f_Book_take : MF := mfn 2 2 s_Book_take
def s__law_told_by : MS := (sSeq (sIf (tOf (eBin gEq (eIx (eVar 1) (eC (.int 0))) (eC (.str "do")))) (sRet (eMeth [("Book", f_Book_do)] "do" (eVar 0) (aCons (eIx (eVar 1) (eC (.int 1))) aNil))) sNil) (sSeq (sIf (tOf (eBin gEq (eIx (eVar 1) (eC (.int 0))) (eC (.str "put")))) (sRet (eMeth [("Book", f_Book_put)] "put" (eVar 0) (aCons (eIx (eVar 1) (eC (.int 1))) (aCons (eIx (eVar 1) (eC (.int 2))) aNil)))) sNil) (sSeq (sIf (tOf (eBin gEq (eIx (eVar 1) (eC (.int 0))) (eC (.str "slip")))) (sRet (eMeth [("Book", f_Book_slip)] "slip" (eVar 0) (aCons (eIx (eVar 1) (eC (.int 1))) (aCons (eIx (eVar 1) (eC (.int 2))) aNil)))) sNil) (sRet (eMeth [("Book", f_Book_take)] "take" (eVar 0) (aCons (eIx (eVar 1) (eC (.int 1))) aNil))))))
def f__law_told_by : MF := mfn 2 2 s__law_told_by
def s__law_done : MS := (sSeq (sAsg (tgN 2) (eOwnD (dDict (eVar 0)))) (sSeq (sIf (tOf (eBin gEq (eIx (eVar 1) (eC (.int 0))) (eC (.str "press")))) (sSubD (eVar 2) (eIx (eVar 1) (eC (.int 2))) (eCall f__law_over (aCons (eIx (eVar 0) (eIx (eVar 1) (eC (.int 2)))) (aCons (eCall f__law_spun (aCons (eIx (eVar 0) (eIx (eVar 1) (eC (.int 1)))) (aCons (eC (.str "m0")) aNil))) aNil)))) sNil) (sSeq (sIf (tOf (eBin gEq (eIx (eVar 1) (eC (.int 0))) (eC (.str "turn")))) (sSubD (eVar 2) (eIx (eVar 1) (eC (.int 1))) (eCall f__law_spun (aCons (eIx (eVar 0) (eIx (eVar 1) (eC (.int 1)))) (aCons (eIx (eVar 1) (eC (.int 2))) aNil)))) sNil) (sSeq (sIf (tOf (eBin gEq (eIx (eVar 1) (eC (.int 0))) (eC (.str "cut")))) (sSubD (eVar 2) (eIx (eVar 1) (eC (.int 1))) (eIx (eVar 1) (eC (.int 2)))) sNil) (sRet (eFreeze (eVar 2)))))))
def f__law_done : MF := mfn 3 2 s__law_done
def s__law_stood : MS := (sSeq (sAsg (tgN 2) (eOwn (fLst (aCons (eVar 0) aNil)))) (sSeq (sFor (iAny (eVar 1)) (tgN 3) (sExpr (eMut gAppend (eVar 2) (aCons (eCall f__law_done (aCons (eIx (eVar 2) (eNeg (eC (.int 1)))) (aCons (eVar 3) aNil))) aNil)))) (sRet (eFreeze (eVar 2)))))
def f__law_stood : MF := mfn 4 2 s__law_stood
def s__law_otherwise : MS := (sSeq (sAsg (tgN 2) (eOwn (fLst aNil))) (sSeq (sFor (iRng1M (eBin gMin (e1 gLen (eVar 0)) (e1 gLen (eVar 1)))) (tgN 3) (sExpr (eMut gExtend (eVar 2) (aCons (eFrz (fComp (iAny (eFrz (f1 gSorted (eIx (eVar 0) (eVar 3))))) (tgN 4) (tOf (eBin gNe (eIx (eIx (eVar 0) (eVar 3)) (eVar 4)) (eIx (eIx (eVar 1) (eVar 3)) (eVar 4)))) (eTup (aCons (eVar 3) (aCons (eVar 4) aNil))) [4])) aNil)))) (sRet (eFreeze (eVar 2)))))
def f__law_otherwise : MF := mfn 5 2 s__law_otherwise
def s__law_changed : MS := (sSeq (sAsg (tgN 3) (eCall f__law_take (aCons (eVar 0) (aCons (eC (.int 3)) aNil)))) (sSeq (sIf (tOf (eBin gEq (eVar 3) (eC (.int 0)))) (sExpr (eMut gClear (eVar 1) aNil)) (sIf (tOf (eBin gEq (eVar 3) (eC (.int 1)))) (sExpr (eMut gReverse (eVar 1) aNil)) sNil)) (sSeq (sExpr (eMut gAppend (eVar 1) (aCons (eTup (aCons (eC (.int 0)) (aCons (eC (.str "a")) aNil))) aNil))) (sFrz 1 (sExpr (eMut gAppend (eVar 2) (aCons (eTup (aCons (eVar 1) (aCons (eFrz (f1 gList (eVar 1))) aNil))) aNil)))))))
def f__law_changed : MF := mfn 4 3 s__law_changed
def s_Book_row : MS := (sRet (eFrz (f1 gList (eFld ["Book"] "deeds" (eVar 0)))))
def f_Book_row : MF := mfn 1 1 s_Book_row
def s__law_step : MS := (sSeq (sUnl (tgCons (tgN 6) (tgCons (tgN 7) (tgCons (tgN 8) tgNil))) (eVar 4)) (sSeq (sAsg (tgN 9) (eCall f__law_take (aCons (eVar 0) (aCons (eC (.int 4)) aNil)))) (sSeq (sIf (tOf (eBin gLt (eVar 9) (eC (.int 2)))) (sSeq (sAsg (tgN 10) (eBin gSub (eBin gAdd (eVar 8) (eBin gMul (eC (.int 2)) (eVar 9))) (eC (.int 1)))) (sSeq (sIf (tNotM (tOf (eChain gLe gLt (eC (.int 0)) (eVar 10) (e1 gLen (eVar 7))))) (sRet (eC (.bl true))) sNil) (sAsg (tgN 11) (eIf (tOf (eBin gEq (eVar 9) (eC (.int 0)))) (eMeth [("Book", f_Book_back)] "back" (eVar 6) aNil) (eMeth [("Book", f_Book_again)] "again" (eVar 6) aNil))))) (sSeq (sAsg (tgN 12) (eCall f__law_doing (aCons (eVar 0) (aCons (eVar 1) (aCons (eVar 2) (aCons (e1 gLen (eIx (eVar 7) (eVar 8))) aNil)))))) (sSeq (sAsg (tgN 13) (eBin gAdd (eVar 8) (eC (.int 1)))) (sSeq (sSubL (eVar 4) (eC (.int 1)) (eBin gAdd (eSl (eVar 7) oNone (oSome (eVar 13))) (eFrz (fLst (aCons (eCall f__law_row_by (aCons (eIx (eVar 7) (eVar 8)) (aCons (eVar 12) aNil))) aNil))))) (sSeq (sAsg (tgN 7) (eIx (eVar 4) (eC (.int 1)))) (sPar 11 10 (eCall f__law_told_by (aCons (eVar 6) (aCons (eVar 12) aNil))) (eBin gAdd (eVar 8) (eC (.int 1))))))))) (sSeq (sIf (tOf (eBin gNe (eVar 11) (eCall f__law_otherwise (aCons (eCall f__law_stood (aCons (eVar 3) (aCons (eIx (eVar 7) (eVar 8)) aNil))) (aCons (eCall f__law_stood (aCons (eVar 3) (aCons (eIx (eVar 7) (eVar 10)) aNil))) aNil))))) (sRet (eC (.bl false))) sNil) (sSeq (sExpr (eCall f__law_changed (aCons (eVar 0) (aCons (eVar 11) (aCons (eVar 5) aNil))))) (sSeq (sSubL (eVar 4) (eC (.int 2)) (eVar 10)) (sRet (eBin gEq (eMeth [("Book", f_Book_row)] "row" (eVar 6) aNil) (eIx (eVar 7) (eVar 10))))))))))
def f__law_step : MF := mfn 14 6 s__law_step
def s_law : MS := (sSeq (sAsg (tgN 1) (eCall f__law_bag (aCons (eVar 0) aNil))) (sSeq (sAsg (tgN 2) (eCall f__law_box (aCons (eVar 1) (aCons (eC (.int 3)) aNil)))) (sSeq (sAsg (tgN 3) (eCall f__law_names (aCons (eVar 1) (aCons (eBin gAdd (eC (.int 1)) (eCall f__law_take (aCons (eVar 1) (aCons (eC (.int 4)) aNil)))) aNil)))) (sSeq (sAsg (tgN 4) (eCall f__law_faces (aCons (eVar 1) (aCons (eVar 2) (aCons (eVar 3) aNil))))) (sSeq (sPar 5 6 (eOwn (fLst (aCons (eOwn (fLst (aCons (eMake "Book" f_Book___init__ (aCons (eMkF "Stamps" f_Stamps___init__ (aCons (eVar 4) aNil)) aNil)) (aCons (eFrz (fLst (aCons (eFrz (fLst aNil)) aNil))) (aCons (eC (.int 0)) aNil))))) aNil))) (eOwn (fLst aNil))) (sSeq (sFor (iRng1M (eBin gAdd (eC (.int 4)) (eCall f__law_take (aCons (eVar 1) (aCons (eC (.int 21)) aNil))))) (tgN 7) (sSeq (sIf (tAndM (tOf (eBin gEq (e1 gLen (eVar 5)) (eC (.int 1)))) (tOf (eBin gEq (eCall f__law_take (aCons (eVar 1) (aCons (eC (.int 6)) aNil))) (eC (.int 0))))) (sExpr (eMut gAppend (eVar 5) (aCons (eOwn (fLst (aCons (eMeth [("Book", f_Book_copied)] "copied" (eIx (eIx (eVar 5) (eC (.int 0))) (eC (.int 0))) aNil) (aCons (eFrz (fComp (iAny (eIx (eIx (eVar 5) (eC (.int 0))) (eC (.int 1)))) (tgN 10) tYesM (eFrz (f1 gList (eVar 10))) [10])) (aCons (eIx (eIx (eVar 5) (eC (.int 0))) (eC (.int 2))) aNil))))) aNil))) sNil) (sIf (tNotM (tOf (eCall f__law_step (aCons (eVar 1) (aCons (eVar 2) (aCons (eVar 3) (aCons (eVar 4) (aCons (eIx (eVar 5) (eCall f__law_take (aCons (eVar 1) (aCons (e1 gLen (eVar 5)) aNil)))) (aCons (eVar 6) aNil))))))))) (sRet (eC (.bl false))) sNil))) (sFrz 6 (sRet (eBin gEq (eFrz (fComp (iAny (eVar 6)) (tgT (tgCons (tgN 8) (tgCons (tgN 9) tgNil))) (tOf (eBin gNe (eVar 8) (eVar 9))) (eC (.int 1)) [8, 9])) (eFrz (fLst aNil)))))))))))
def f_law : MF := mfn 11 1 s_law
/-! ### 4. what the top leaves -/
structure Tx (K : PySem.W.Frag) (mg : Str → Option Value) (cl : Str → Option Addr) : Prop where
  b_abs : mg "abs" = none
  b_all : mg "all" = none
  b_bool : mg "bool" = none
  b_dict : mg "dict" = none
  b_enumerate : mg "enumerate" = none
  b_int : mg "int" = none
  b_isinstance : mg "isinstance" = none
  b_len : mg "len" = none
  b_list : mg "list" = none
  b_min : mg "min" = none
  b_range : mg "range" = none
  b_sorted : mg "sorted" = none
  b_str : mg "str" = none
  b_tuple : mg "tuple" = none
  b_zip : mg "zip" = none
  g_FLAT : Gc K mg "FLAT" k_FLAT
  g_HAND_TURNINGS : Gc K mg "HAND_TURNINGS" k_HAND_TURNINGS
  t_HAND_TURNINGS : Tc K mg "HAND_TURNINGS" (He.ga K "HAND_TURNINGS") l_HAND_TURNINGS
  g_LETTERS : Gc K mg "LETTERS" k_LETTERS
  g_MOST_DEEDS : Gc K mg "MOST_DEEDS" k_MOST_DEEDS
  g_MOST_LETTERS : Gc K mg "MOST_LETTERS" k_MOST_LETTERS
  g_MOST_SIDE : Gc K mg "MOST_SIDE" k_MOST_SIDE
  g_MOST_STAMPS : Gc K mg "MOST_STAMPS" k_MOST_STAMPS
  g_QUARTERS : Gc K mg "QUARTERS" k_QUARTERS
  g_TURNINGS : Gc K mg "TURNINGS" k_TURNINGS
  t_TURNINGS : Tc K mg "TURNINGS" (He.ga K "TURNINGS") l_TURNINGS
  g_UP : Gc K mg "UP" k_UP
  C_Book : mg "Book" = some (.ref (He.ga K "Book"))
  cl_Book : cl "Book" = some (He.ga K "Book")
  k_Book : Cls K (He.ga K "Book")
  C_Stamps : mg "Stamps" = some (.ref (He.ga K "Stamps"))
  cl_Stamps : cl "Stamps" = some (He.ga K "Stamps")
  k_Stamps : Cls K (He.ga K "Stamps")
  mk_Book : Mk K (He.ga K "Book") (He.ma K (He.ga K "Book") "__init__")
  mk_Stamps : Mk K (He.ga K "Stamps") (He.ma K (He.ga K "Stamps") "__init__")
  ic_Stamps : InsTy K (He.ga K "Stamps")
  n_begun : FldOk K cl ["Book"] "begun"
  n_deeds : FldOk K cl ["Book"] "deeds"
  n_held : FldOk K cl ["Stamps"] "held"
  n_past : FldOk K cl ["Book"] "past"
  n_stood : FldOk K cl ["Book"] "stood"
  n_undone_rows : FldOk K cl ["Book"] "undone_rows"
  m_Book_again : Meth K (He.ga K "Book") "again" (He.ma K (He.ga K "Book") "again")
  m_Book_back : Meth K (He.ga K "Book") "back" (He.ma K (He.ga K "Book") "back")
  m_Book_become : Meth K (He.ga K "Book") "become" (He.ma K (He.ga K "Book") "become")
  m_Book_changed : Meth K (He.ga K "Book") "changed" (He.ma K (He.ga K "Book") "changed")
  m_Book_copied : Meth K (He.ga K "Book") "copied" (He.ma K (He.ga K "Book") "copied")
  m_Book_do : Meth K (He.ga K "Book") "do" (He.ma K (He.ga K "Book") "do")
  m_Book_length : Meth K (He.ga K "Book") "length" (He.ma K (He.ga K "Book") "length")
  m_Book_need_room : Meth K (He.ga K "Book") "need_room" (He.ma K (He.ga K "Book") "need_room")
  m_Book_need_there : Meth K (He.ga K "Book") "need_there" (He.ma K (He.ga K "Book") "need_there")
  m_Book_put : Meth K (He.ga K "Book") "put" (He.ma K (He.ga K "Book") "put")
  m_Book_put_row : Meth K (He.ga K "Book") "put_row" (He.ma K (He.ga K "Book") "put_row")
  m_Book_row : Meth K (He.ga K "Book") "row" (He.ma K (He.ga K "Book") "row")
  m_Book_slip : Meth K (He.ga K "Book") "slip" (He.ma K (He.ga K "Book") "slip")
  m_Book_stood_by : Meth K (He.ga K "Book") "stood_by" (He.ma K (He.ga K "Book") "stood_by")
  m_Book_take : Meth K (He.ga K "Book") "take" (He.ma K (He.ga K "Book") "take")
  m_Stamps_box : Meth K (He.ga K "Stamps") "box" (He.ma K (He.ga K "Stamps") "box")
  m_Stamps_done : Meth K (He.ga K "Stamps") "done" (He.ma K (He.ga K "Stamps") "done")
  m_Stamps_face_behind : Meth K (He.ga K "Stamps") "face_behind" (He.ma K (He.ga K "Stamps") "face_behind")
  m_Stamps_faces : Meth K (He.ga K "Stamps") "faces" (He.ma K (He.ga K "Stamps") "faces")
  m_Stamps_names : Meth K (He.ga K "Stamps") "names" (He.ma K (He.ga K "Stamps") "names")
  m_Stamps_need_deed : Meth K (He.ga K "Stamps") "need_deed" (He.ma K (He.ga K "Stamps") "need_deed")
  g__law_bag : mg "_law_bag" = some (.ref (He.ga K "_law_bag"))
  F__law_bag : ∃ fd, FunD K "_law_bag" "_law_bag" (defArgs st__law_bag) (defBody st__law_bag) (defScope st__law_bag) [] [] (He.ga K "_law_bag") fd
  g__law_take : mg "_law_take" = some (.ref (He.ga K "_law_take"))
  F__law_take : ∃ fd, FunD K "_law_take" "_law_take" (defArgs st__law_take) (defBody st__law_take) (defScope st__law_take) [] [] (He.ga K "_law_take") fd
  g__law_box : mg "_law_box" = some (.ref (He.ga K "_law_box"))
  F__law_box : ∃ fd, FunD K "_law_box" "_law_box" (defArgs st__law_box) (defBody st__law_box) (defScope st__law_box) [] [] (He.ga K "_law_box") fd
  g__law_names : mg "_law_names" = some (.ref (He.ga K "_law_names"))
  F__law_names : ∃ fd, FunD K "_law_names" "_law_names" (defArgs st__law_names) (defBody st__law_names) (defScope st__law_names) [] [] (He.ga K "_law_names") fd
  g__law_face : mg "_law_face" = some (.ref (He.ga K "_law_face"))
  F__law_face : ∃ fd, FunD K "_law_face" "_law_face" (defArgs st__law_face) (defBody st__law_face) (defScope st__law_face) [] [] (He.ga K "_law_face") fd
  g__law_turnings : mg "_law_turnings" = some (.ref (He.ga K "_law_turnings"))
  F__law_turnings : ∃ fd, FunD K "_law_turnings" "_law_turnings" (defArgs st__law_turnings) (defBody st__law_turnings) (defScope st__law_turnings) [] [] (He.ga K "_law_turnings") fd
  g__law_spun : mg "_law_spun" = some (.ref (He.ga K "_law_spun"))
  F__law_spun : ∃ fd, FunD K "_law_spun" "_law_spun" (defArgs st__law_spun) (defBody st__law_spun) (defScope st__law_spun) [] [] (He.ga K "_law_spun") fd
  g__law_over : mg "_law_over" = some (.ref (He.ga K "_law_over"))
  F__law_over : ∃ fd, FunD K "_law_over" "_law_over" (defArgs st__law_over) (defBody st__law_over) (defScope st__law_over) [] [] (He.ga K "_law_over") fd
  g__law_faces : mg "_law_faces" = some (.ref (He.ga K "_law_faces"))
  F__law_faces : ∃ fd, FunD K "_law_faces" "_law_faces" (defArgs st__law_faces) (defBody st__law_faces) (defScope st__law_faces) [] [] (He.ga K "_law_faces") fd
  g_is_name : mg "is_name" = some (.ref (He.ga K "is_name"))
  F_is_name : ∃ fd, FunD K "is_name" "is_name" (defArgs st_is_name) (defBody st_is_name) (defScope st_is_name) [] [] (He.ga K "is_name") fd
  g_is_face_row : mg "is_face_row" = some (.ref (He.ga K "is_face_row"))
  F_is_face_row : ∃ fd, FunD K "is_face_row" "is_face_row" (defArgs st_is_face_row) (defBody st_is_face_row) (defScope st_is_face_row) [] [] (He.ga K "is_face_row") fd
  g_is_face : mg "is_face" = some (.ref (He.ga K "is_face"))
  F_is_face : ∃ fd, FunD K "is_face" "is_face" (defArgs st_is_face) (defBody st_is_face) (defScope st_is_face) [] [] (He.ga K "is_face") fd
  g_box_of : mg "box_of" = some (.ref (He.ga K "box_of"))
  F_box_of : ∃ fd, FunD K "box_of" "box_of" (defArgs st_box_of) (defBody st_box_of) (defScope st_box_of) [] [] (He.ga K "box_of") fd
  g_are_faces : mg "are_faces" = some (.ref (He.ga K "are_faces"))
  F_are_faces : ∃ fd, FunD K "are_faces" "are_faces" (defArgs st_are_faces) (defBody st_are_faces) (defScope st_are_faces) [] [] (He.ga K "are_faces") fd
  F_Stamps___init__ : ∃ fd, FunD K "__init__" "Stamps.__init__" (defArgs st_Stamps___init__) (defBody st_Stamps___init__) (defScope st_Stamps___init__) [] [] (He.ma K (He.ga K "Stamps") "__init__") fd
  g_good_or_wrong : mg "good_or_wrong" = some (.ref (He.ga K "good_or_wrong"))
  F_good_or_wrong : ∃ fd, FunD K "good_or_wrong" "good_or_wrong" (defArgs st_good_or_wrong) (defBody st_good_or_wrong) (defScope st_good_or_wrong) [] [] (He.ga K "good_or_wrong") fd
  F_Book___init__ : ∃ fd, FunD K "__init__" "Book.__init__" (defArgs st_Book___init__) (defBody st_Book___init__) (defScope st_Book___init__) [] [] (He.ma K (He.ga K "Book") "__init__") fd
  F_Book_copied : ∃ fd, FunD K "copied" "Book.copied" (defArgs st_Book_copied) (defBody st_Book_copied) (defScope st_Book_copied) [] [] (He.ma K (He.ga K "Book") "copied") fd
  F_Book_length : ∃ fd, FunD K "length" "Book.length" (defArgs st_Book_length) (defBody st_Book_length) (defScope st_Book_length) [] [] (He.ma K (He.ga K "Book") "length") fd
  g_is_hand_turning : mg "is_hand_turning" = some (.ref (He.ga K "is_hand_turning"))
  F_is_hand_turning : ∃ fd, FunD K "is_hand_turning" "is_hand_turning" (defArgs st_is_hand_turning) (defBody st_is_hand_turning) (defScope st_is_hand_turning) [] [] (He.ga K "is_hand_turning") fd
  g_is_deed : mg "is_deed" = some (.ref (He.ga K "is_deed"))
  F_is_deed : ∃ fd, FunD K "is_deed" "is_deed" (defArgs st_is_deed) (defBody st_is_deed) (defScope st_is_deed) [] [] (He.ga K "is_deed") fd
  g_names_in : mg "names_in" = some (.ref (He.ga K "names_in"))
  F_names_in : ∃ fd, FunD K "names_in" "names_in" (defArgs st_names_in) (defBody st_names_in) (defScope st_names_in) [] [] (He.ga K "names_in") fd
  F_Stamps_names : ∃ fd, FunD K "names" "Stamps.names" (defArgs st_Stamps_names) (defBody st_Stamps_names) (defScope st_Stamps_names) [] [] (He.ma K (He.ga K "Stamps") "names") fd
  F_Stamps_box : ∃ fd, FunD K "box" "Stamps.box" (defArgs st_Stamps_box) (defBody st_Stamps_box) (defScope st_Stamps_box) [] [] (He.ma K (He.ga K "Stamps") "box") fd
  g_quarters : mg "quarters" = some (.ref (He.ga K "quarters"))
  F_quarters : ∃ fd, FunD K "quarters" "quarters" (defArgs st_quarters) (defBody st_quarters) (defScope st_quarters) [] [] (He.ga K "quarters") fd
  g_has_turning : mg "has_turning" = some (.ref (He.ga K "has_turning"))
  F_has_turning : ∃ fd, FunD K "has_turning" "has_turning" (defArgs st_has_turning) (defBody st_has_turning) (defScope st_has_turning) [] [] (He.ga K "has_turning") fd
  F_Stamps_need_deed : ∃ fd, FunD K "need_deed" "Stamps.need_deed" (defArgs st_Stamps_need_deed) (defBody st_Stamps_need_deed) (defScope st_Stamps_need_deed) [] [] (He.ma K (He.ga K "Stamps") "need_deed") fd
  g_mirrored : mg "mirrored" = some (.ref (He.ga K "mirrored"))
  F_mirrored : ∃ fd, FunD K "mirrored" "mirrored" (defArgs st_mirrored) (defBody st_mirrored) (defScope st_mirrored) [] [] (He.ga K "mirrored") fd
  g_laid_sign : mg "laid_sign" = some (.ref (He.ga K "laid_sign"))
  F_laid_sign : ∃ fd, FunD K "laid_sign" "laid_sign" (defArgs st_laid_sign) (defBody st_laid_sign) (defScope st_laid_sign) [] [] (He.ga K "laid_sign") fd
  g_laid_two : mg "laid_two" = some (.ref (He.ga K "laid_two"))
  F_laid_two : ∃ fd, FunD K "laid_two" "laid_two" (defArgs st_laid_two) (defBody st_laid_two) (defScope st_laid_two) [] [] (He.ga K "laid_two") fd
  g_exchanges : mg "exchanges" = some (.ref (He.ga K "exchanges"))
  F_exchanges : ∃ fd, FunD K "exchanges" "exchanges" (defArgs st_exchanges) (defBody st_exchanges) (defScope st_exchanges) [] [] (He.ga K "exchanges") fd
  g_quarter_turned : mg "quarter_turned" = some (.ref (He.ga K "quarter_turned"))
  F_quarter_turned : ∃ fd, FunD K "quarter_turned" "quarter_turned" (defArgs st_quarter_turned) (defBody st_quarter_turned) (defScope st_quarter_turned) [] [] (He.ga K "quarter_turned") fd
  g_turned : mg "turned" = some (.ref (He.ga K "turned"))
  F_turned : ∃ fd, FunD K "turned" "turned" (defArgs st_turned) (defBody st_turned) (defScope st_turned) [] [] (He.ga K "turned") fd
  F_Stamps_face_behind : ∃ fd, FunD K "face_behind" "Stamps.face_behind" (defArgs st_Stamps_face_behind) (defBody st_Stamps_face_behind) (defScope st_Stamps_face_behind) [] [] (He.ma K (He.ga K "Stamps") "face_behind") fd
  F_Stamps_done : ∃ fd, FunD K "done" "Stamps.done" (defArgs st_Stamps_done) (defBody st_Stamps_done) (defScope st_Stamps_done) [] [] (He.ma K (He.ga K "Stamps") "done") fd
  g_done_at : mg "done_at" = some (.ref (He.ga K "done_at"))
  F_done_at : ∃ fd, FunD K "done_at" "done_at" (defArgs st_done_at) (defBody st_done_at) (defScope st_done_at) [] [] (He.ga K "done_at") fd
  g_standings_behind : mg "standings_behind" = some (.ref (He.ga K "standings_behind"))
  F_standings_behind : ∃ fd, FunD K "standings_behind" "standings_behind" (defArgs st_standings_behind) (defBody st_standings_behind) (defScope st_standings_behind) [] [] (He.ga K "standings_behind") fd
  F_Book_stood_by : ∃ fd, FunD K "stood_by" "Book.stood_by" (defArgs st_Book_stood_by) (defBody st_Book_stood_by) (defScope st_Book_stood_by) [] [] (He.ma K (He.ga K "Book") "stood_by") fd
  F_Stamps_faces : ∃ fd, FunD K "faces" "Stamps.faces" (defArgs st_Stamps_faces) (defBody st_Stamps_faces) (defScope st_Stamps_faces) [] [] (He.ma K (He.ga K "Stamps") "faces") fd
  g_otherwise : mg "otherwise" = some (.ref (He.ga K "otherwise"))
  F_otherwise : ∃ fd, FunD K "otherwise" "otherwise" (defArgs st_otherwise) (defBody st_otherwise) (defScope st_otherwise) [] [] (He.ga K "otherwise") fd
  F_Book_become : ∃ fd, FunD K "become" "Book.become" (defArgs st_Book_become) (defBody st_Book_become) (defScope st_Book_become) [] [] (He.ma K (He.ga K "Book") "become") fd
  F_Book_back : ∃ fd, FunD K "back" "Book.back" (defArgs st_Book_back) (defBody st_Book_back) (defScope st_Book_back) [] [] (He.ma K (He.ga K "Book") "back") fd
  F_Book_again : ∃ fd, FunD K "again" "Book.again" (defArgs st_Book_again) (defBody st_Book_again) (defScope st_Book_again) [] [] (He.ma K (He.ga K "Book") "again") fd
  g__law_deed : mg "_law_deed" = some (.ref (He.ga K "_law_deed"))
  F__law_deed : ∃ fd, FunD K "_law_deed" "_law_deed" (defArgs st__law_deed) (defBody st__law_deed) (defScope st__law_deed) [] [] (He.ga K "_law_deed") fd
  g__law_doing : mg "_law_doing" = some (.ref (He.ga K "_law_doing"))
  F__law_doing : ∃ fd, FunD K "_law_doing" "_law_doing" (defArgs st__law_doing) (defBody st__law_doing) (defScope st__law_doing) [] [] (He.ga K "_law_doing") fd
  g__law_row_by : mg "_law_row_by" = some (.ref (He.ga K "_law_row_by"))
  F__law_row_by : ∃ fd, FunD K "_law_row_by" "_law_row_by" (defArgs st__law_row_by) (defBody st__law_row_by) (defScope st__law_row_by) [] [] (He.ga K "_law_row_by") fd
  F_Book_need_room : ∃ fd, FunD K "need_room" "Book.need_room" (defArgs st_Book_need_room) (defBody st_Book_need_room) (defScope st_Book_need_room) [] [] (He.ma K (He.ga K "Book") "need_room") fd
  F_Book_changed : ∃ fd, FunD K "changed" "Book.changed" (defArgs st_Book_changed) (defBody st_Book_changed) (defScope st_Book_changed) [] [] (He.ma K (He.ga K "Book") "changed") fd
  F_Book_do : ∃ fd, FunD K "do" "Book.do" (defArgs st_Book_do) (defBody st_Book_do) (defScope st_Book_do) [] [] (He.ma K (He.ga K "Book") "do") fd
  g_is_whole : mg "is_whole" = some (.ref (He.ga K "is_whole"))
  F_is_whole : ∃ fd, FunD K "is_whole" "is_whole" (defArgs st_is_whole) (defBody st_is_whole) (defScope st_is_whole) [] [] (He.ga K "is_whole") fd
  g_is_from_none : mg "is_from_none" = some (.ref (He.ga K "is_from_none"))
  F_is_from_none : ∃ fd, FunD K "is_from_none" "is_from_none" (defArgs st_is_from_none) (defBody st_is_from_none) (defScope st_is_from_none) [] [] (He.ga K "is_from_none") fd
  F_Book_need_there : ∃ fd, FunD K "need_there" "Book.need_there" (defArgs st_Book_need_there) (defBody st_Book_need_there) (defScope st_Book_need_there) [] [] (He.ma K (He.ga K "Book") "need_there") fd
  F_Book_put_row : ∃ fd, FunD K "put_row" "Book.put_row" (defArgs st_Book_put_row) (defBody st_Book_put_row) (defScope st_Book_put_row) [] [] (He.ma K (He.ga K "Book") "put_row") fd
  F_Book_put : ∃ fd, FunD K "put" "Book.put" (defArgs st_Book_put) (defBody st_Book_put) (defScope st_Book_put) [] [] (He.ma K (He.ga K "Book") "put") fd
  F_Book_slip : ∃ fd, FunD K "slip" "Book.slip" (defArgs st_Book_slip) (defBody st_Book_slip) (defScope st_Book_slip) [] [] (He.ma K (He.ga K "Book") "slip") fd
  F_Book_take : ∃ fd, FunD K "take" "Book.take" (defArgs st_Book_take) (defBody st_Book_take) (defScope st_Book_take) [] [] (He.ma K (He.ga K "Book") "take") fd
  g__law_told_by : mg "_law_told_by" = some (.ref (He.ga K "_law_told_by"))
  F__law_told_by : ∃ fd, FunD K "_law_told_by" "_law_told_by" (defArgs st__law_told_by) (defBody st__law_told_by) (defScope st__law_told_by) [] [] (He.ga K "_law_told_by") fd
  g__law_done : mg "_law_done" = some (.ref (He.ga K "_law_done"))
  F__law_done : ∃ fd, FunD K "_law_done" "_law_done" (defArgs st__law_done) (defBody st__law_done) (defScope st__law_done) [] [] (He.ga K "_law_done") fd
  g__law_stood : mg "_law_stood" = some (.ref (He.ga K "_law_stood"))
  F__law_stood : ∃ fd, FunD K "_law_stood" "_law_stood" (defArgs st__law_stood) (defBody st__law_stood) (defScope st__law_stood) [] [] (He.ga K "_law_stood") fd
  g__law_otherwise : mg "_law_otherwise" = some (.ref (He.ga K "_law_otherwise"))
  F__law_otherwise : ∃ fd, FunD K "_law_otherwise" "_law_otherwise" (defArgs st__law_otherwise) (defBody st__law_otherwise) (defScope st__law_otherwise) [] [] (He.ga K "_law_otherwise") fd
  g__law_changed : mg "_law_changed" = some (.ref (He.ga K "_law_changed"))
  F__law_changed : ∃ fd, FunD K "_law_changed" "_law_changed" (defArgs st__law_changed) (defBody st__law_changed) (defScope st__law_changed) [] [] (He.ga K "_law_changed") fd
  F_Book_row : ∃ fd, FunD K "row" "Book.row" (defArgs st_Book_row) (defBody st_Book_row) (defScope st_Book_row) [] [] (He.ma K (He.ga K "Book") "row") fd
  g__law_step : mg "_law_step" = some (.ref (He.ga K "_law_step"))
  F__law_step : ∃ fd, FunD K "_law_step" "_law_step" (defArgs st__law_step) (defBody st__law_step) (defScope st__law_step) [] [] (He.ga K "_law_step") fd
  g_law : mg "law" = some (.ref (He.ga K "law"))
  F_law : ∃ fd, FunD K "law" "law" (defArgs st_law) (defBody st_law) (defScope st_law) [] [] (He.ga K "law") fd
end K88

set_option linter.all false
set_option maxRecDepth 100000
namespace K88
open PySem L2 MM
/-! ### names, faces -/
def nameB (z : Str) : Bool := decide (1 ≤ z.length ∧ z.length ≤ 8) && z.cps.toList.all fun c => decide (c ∈ ("abcdefghijklmnopqrstuvwxyz" : Str).cps.toList)
theorem ev_is_name {z : Str} (h : nameB z = true) (ah : AH) : f_is_name [.str z] ah = some (.bl true, ah) := by
  unfold nameB at h
  simp only [Bool.and_eq_true, decide_eq_true_eq] at h
  obtain ⟨⟨h1, h2⟩, h3⟩ := h
  have hz : z.length ≤ 100000 := by omega
  have c : tOrM (tNotM (tOf (eIsB "str" (eVar 0)))) (tNotM (tOf (eChain gLe gLe (eC (.int 1)) (e1 gLen (eVar 0)) (eC k_MOST_LETTERS)))) [some (.str z), none] ah = some (false, ah) := by
    rw [tor_f (ah1 := ah) rfl]
    exact tnot_ev (tof_ev (chain_t rfl (len_str rfl hz) rfl (by omega) (by omega)))
  have e2 : compGo (tgN 1) tYesM (eBin gIn (eVar 1) (eC k_LETTERS)) [some (.str z), none] (signs z) ah = some (z.cps.toList.map fun c => .bl (decide (c ∈ ("abcdefghijklmnopqrstuvwxyz" : Str).cps.toList)), ah) :=
    compGo_map (i := fun c : Nat => .str ⟨#[c]⟩) fun c hc => ⟨_, rfl, rfl, bin_ev rfl rfl (in_sign _ _ _)⟩
  have hs : s_is_name [some (.str z), none] ah = some (.rt (.bl true), ah) := by
    unfold s_is_name
    rw [seq_nx (δ1 := [some (.str z), none]) (ah1 := ah) (by rw [if_f c]; rfl)]
    refine ret_ev (e1_ev (frz_ev ((comp_ev (iAny_str rfl) ?_).trans e2)) ?_)
    · simp only [signs, List.length_map]
      exact hz
    · have := all_lst ah (z.cps.toList.map fun c => decide (c ∈ ("abcdefghijklmnopqrstuvwxyz" : Str).cps.toList))
      rw [List.map_map] at this
      refine Eq.trans this ?_
      rw [List.all_map]
      exact congrArg (fun b => some (D.bl b)) h3
  exact (fn_rt rfl hs).trans (by rw [trim_self])
abbrev Cell := Nat → Nat → Bool
def sg (b : Bool) : Nat := if b = true then 111 else 46
def rowS (w : Nat) (r : Nat → Bool) : Str := ⟨((List.range w).map fun x => sg (r x)).toArray⟩
def fD (w h : Nat) (c : Cell) : D := .tup ((List.range h).map fun y => .str (rowS w fun x => c x y))
theorem rowS_congr {w : Nat} {r r' : Nat → Bool} (h : ∀ x, x < w → r x = r' x) : rowS w r = rowS w r' := by
  unfold rowS
  congr 2
  exact List.map_congr_left fun x hx => by rw [h x (List.mem_range.mp hx)]
theorem fD_congr {w h : Nat} {c c' : Cell} (e : ∀ x y, x < w → y < h → c x y = c' x y) : fD w h c = fD w h c' := by
  unfold fD
  congr 1
  exact List.map_congr_left fun y hy => by rw [rowS_congr fun x hx => e x y hx (List.mem_range.mp hy)]
theorem rowS_len (w : Nat) (r : Nat → Bool) : (rowS w r).length = w := by simp [rowS, Str.length]
theorem rowS_cps (w : Nat) (r : Nat → Bool) : (rowS w r).cps.toList = (List.range w).map fun x => sg (r x) := by simp [rowS]
theorem rowS_at {w x : Nat} {r : Nat → Bool} (hx : x < w) : (rowS w r).cps[x]? = some (sg (r x)) := by simp [rowS, hx]
theorem ev_is_face_row {w : Nat} {r : Nat → Bool} (h1 : 1 ≤ w) (h2 : w ≤ 6) (ah : AH) : f_is_face_row [.str (rowS w r)] ah = some (.bl true, ah) := by
  have c : tOrM (tNotM (tOf (eIsB "str" (eVar 0)))) (tNotM (tOf (eChain gLe gLe (eC (.int 1)) (e1 gLen (eVar 0)) (eC k_MOST_SIDE)))) [some (.str (rowS w r)), none] ah = some (false, ah) := by
    have hz : (rowS w r).length ≤ 100000 := by rw [rowS_len]; omega
    rw [tor_f (ah1 := ah) rfl]
    exact tnot_ev (tof_ev (chain_t rfl (len_str rfl hz) rfl (by rw [rowS_len]; omega) (by rw [rowS_len]; omega)))
  have e2 : compGo (tgN 1) tYesM (eOr (eBin gEq (eVar 1) (eC k_UP)) (eBin gEq (eVar 1) (eC k_FLAT))) [some (.str (rowS w r)), none] (signs (rowS w r)) ah = some ((List.range w).map (fun _ => .bl true), ah) := by
    have e3 : signs (rowS w r) = (List.range w).map fun x => .str ⟨#[sg (r x)]⟩ := by
      unfold signs
      rw [rowS_cps, List.map_map]
      rfl
    rw [e3]
    refine compGo_map (i := fun x : Nat => .str ⟨#[sg (r x)]⟩) fun x hx => ⟨_, rfl, rfl, ?_⟩
    cases r x <;> rfl
  have hs : s_is_face_row [some (.str (rowS w r)), none] ah = some (.rt (.bl true), ah) := by
    unfold s_is_face_row
    rw [seq_nx (δ1 := [some (.str (rowS w r)), none]) (ah1 := ah) (by rw [if_f c]; rfl)]
    refine ret_ev (e1_ev (frz_ev ((comp_ev (iAny_str rfl) ?_).trans e2)) ?_)
    · simp [signs, rowS_cps]
      omega
    · have := all_lst ah ((List.range w).map fun _ => true)
      rw [List.map_map] at this
      refine Eq.trans this ?_
      rw [List.all_map]
      congr 2
      simp
  exact (fn_rt rfl hs).trans (by rw [trim_self])
theorem fD_row {w h y : Nat} {c : Cell} (hy : y < h) : ((List.range h).map fun y => D.str (rowS w fun x => c x y))[y]? = some (.str (rowS w fun x => c x y)) := by simp [hy]
theorem ix_tup {m b : ME} {δ : DL} {ah ah1 ah2 : AH} {l : List D} {i : Nat} {d : D} (h : m δ ah = some (.tup l, ah1)) (hb : b δ ah1 = some (.int (i : Nat), ah2)) (e : l[i]? = some d) : eIx m b δ ah = some (d, ah2) := by
  refine bin_ev h hb ?_
  have hi := (List.getElem?_eq_some_iff.mp e).1
  simp [gIx, asK, atI, ixN, hi]
  exact (List.getElem?_eq_some_iff.mp e).2
theorem ev_is_face {w h : Nat} {c : Cell} (h1 : 1 ≤ w) (h2 : w ≤ 6) (h3 : 1 ≤ h) (h4 : h ≤ 6) (ah : AH) : f_is_face [fD w h c] ah = some (.bl true, ah) := by
  have t0 : tOrM (tNotM (tOf (eIsB "tuple" (eVar 0)))) (tNotM (tOf (eChain gLe gLe (eC (.int 1)) (e1 gLen (eVar 0)) (eC k_MOST_SIDE)))) [some (fD w h c), none] ah = some (false, ah) := by
    rw [tor_f (ah1 := ah) rfl]
    exact tnot_ev (tof_ev (chain_t rfl (len_tup rfl) rfl (by simp; omega) (by simp; omega)))
  have e2 : compGo (tgN 1) tYesM (eCall f_is_face_row (aCons (eVar 1) aNil)) [some (fD w h c), none] ((List.range h).map fun y => D.str (rowS w fun x => c x y)) ah = some ((List.range h).map (fun _ => .bl true), ah) :=
    compGo_map (i := fun y : Nat => D.str (rowS w fun x => c x y)) fun y hy => ⟨_, rfl, rfl, (call_ev rfl).trans (ev_is_face_row h1 h2 _)⟩
  have e3 : compGo (tgN 1) tYesM (eBin gEq (e1 gLen (eVar 1)) (e1 gLen (eIx (eVar 0) (eC (.int 0))))) [some (fD w h c), none] ((List.range h).map fun y => D.str (rowS w fun x => c x y)) ah = some ((List.range h).map (fun _ => .bl true), ah) :=
    compGo_map (i := fun y : Nat => D.str (rowS w fun x => c x y)) fun y hy => ⟨_, rfl, rfl, bin_ev (len_str rfl (by rw [rowS_len]; omega)) (len_str (ix_tup rfl rfl (fD_row (y := 0) (by omega))) (by rw [rowS_len]; omega)) (by simp [gEq, dEq, rowS_len])⟩
  have all : gAll ah (.lst ((List.range h).map fun _ => .bl true)) = some (.bl true) := by
    have := all_lst ah ((List.range h).map fun _ => true)
    rw [List.map_map] at this
    refine Eq.trans this ?_
    rw [List.all_map]
    congr 2
    simp
  have hs : s_is_face [some (fD w h c), none] ah = some (.rt (.bl true), ah) := by
    unfold s_is_face
    rw [seq_nx (δ1 := [some (fD w h c), none]) (ah1 := ah) (by rw [if_f t0]; rfl)]
    refine ret_ev ?_
    rw [and_t (e1_ev (frz_ev ((comp_ev (iAny_tup rfl) (by simp; omega)).trans e2)) all)]
    exact e1_ev (frz_ev ((comp_ev (iAny_tup rfl) (by simp; omega)).trans e3)) all
  exact (fn_rt rfl hs).trans (by rw [trim_self])
theorem ev_box_of {w h : Nat} {c : Cell} (h2 : w ≤ 6) (h3 : 1 ≤ h) (ah : AH) : f_box_of [fD w h c] ah = some (.tup [.int w, .int h], ah) := by
  have hs : s_box_of [some (fD w h c)] ah = some (.rt (.tup [.int w, .int h]), ah) := by
    have a1 : e1 gLen (eIx (eVar 0) (eC (.int 0))) [some (fD w h c)] ah = some (.int w, ah) := by
      have := len_str (m := eIx (eVar 0) (eC (.int 0))) (δ := [some (fD w h c)]) (ah := ah) (ix_tup rfl rfl (fD_row (y := 0) (by omega))) (by rw [rowS_len]; omega)
      rw [rowS_len] at this
      exact this
    have a2 : e1 gLen (eVar 0) [some (fD w h c)] ah = some (.int h, ah) := by
      have := len_tup (m := eVar 0) (δ := [some (fD w h c)]) (ah := ah) rfl
      simpa using this
    unfold s_box_of
    refine ret_ev ?_
    simp [eTup, aCons, aNil, a1, a2]
  exact (fn_rt rfl hs).trans (by rw [trim_self])
end K88

set_option linter.all false
set_option maxRecDepth 100000
namespace K88
open PySem L2 MM
theorem glue_go (f : Nat → Nat) : ∀ (r : List Nat) (acc : Array Nat), (r.map fun i => (⟨#[f i]⟩ : Str)).foldl (fun acc p => acc ++ ("" : Str).cps ++ p.cps) acc = acc ++ (r.map f).toArray
  | [], acc => by simp
  | i :: r, acc => by
    rw [List.map_cons, List.foldl_cons, glue_go f r]
    have e : ("" : Str).cps = #[] := rfl
    rw [e]
    simp
theorem join_signs (f : Nat → Nat) (l : List Nat) : Txt.join ("" : Str) (l.map fun i => ⟨#[f i]⟩) = ⟨(l.map f).toArray⟩ := by
  show Builtin.Str.glued ("" : Str) (l.map fun i => ⟨#[f i]⟩) = _
  unfold Builtin.Str.glued
  cases l with
  | nil => rfl
  | cons i r =>
    show (⟨(r.map fun i => (⟨#[f i]⟩ : Str)).foldl (fun acc p => acc ++ ("" : Str).cps ++ p.cps) #[f i]⟩ : Str) = _
    rw [glue_go]
    simp
theorem sum_ones (f : Nat → Nat) : ∀ l : List Nat, ((l.map fun i => (⟨#[f i]⟩ : Str)).map PySem.Str.length).sum = l.length
  | [] => rfl
  | i :: r => by
    rw [List.map_cons, List.map_cons, List.sum_cons, sum_ones f r, List.length_cons]
    show 1 + r.length = _
    omega
theorem join_ev {o a : ME} {δ : DL} {ah ah1 ah2 : AH} {f : Nat → Nat} {l : List Nat} (h1 : o δ ah = some (.str "", ah1)) (h2 : a δ ah1 = some (.lst (l.map fun i => .str ⟨#[f i]⟩), ah2)) (hl : l.length ≤ 1000) : eJoin o a δ ah = some (.str ⟨(l.map f).toArray⟩, ah2) := by
  refine bin_ev h1 h2 ?_
  have e0 : ("" : Str).length = 0 := rfl
  simp only [gJoin, asL, Option.bind_some, strs_map]
  rw [if_pos (by rw [sum_ones, e0]; omega), join_signs]
theorem rowS_rev (w : Nat) (r : Nat → Bool) : (⟨(rowS w r).cps.toList.reverse.toArray⟩ : Str) = rowS w fun x => r (w - 1 - x) := by
  unfold rowS
  congr 1
  simp only [List.toList_toArray]
  rw [← List.map_reverse, ← PySem.W.krv_range, List.map_map]
  rfl
theorem rv_str {m : ME} {δ : DL} {ah ah1 : AH} {z : Str} (h : m δ ah = some (.str z, ah1)) (hz : z.length ≤ 100000) : eRv m δ ah = some (.str ⟨z.cps.toList.reverse.toArray⟩, ah1) := by
  simp [eRv, orE, eRevS, h, hz]
theorem rv_tup {m : ME} {δ : DL} {ah ah1 : AH} {l : List D} (h : m δ ah = some (.tup l, ah1)) : eRv m δ ah = some (.tup l.reverse, ah1) := by
  simp [eRv, orE, eRevS, h]
theorem tup_lst (ah : AH) (l : List D) : gTuple ah (.lst l) = some (.tup l) := rfl
def mirC (w : Nat) (c : Cell) : Cell := fun x y => c (w - 1 - x) y
def rotC (h : Nat) (c : Cell) : Cell := fun x y => c y (h - 1 - x)
theorem ev_mirrored {w h : Nat} {c : Cell} (h2 : w ≤ 6) (h4 : h ≤ 6) (ah : AH) : f_mirrored [fD w h c] ah = some (fD w h (mirC w c), ah) := by
  have e2 : compGo (tgN 1) tYesM (eRv (eVar 1)) [some (fD w h c), none] ((List.range h).map fun y => D.str (rowS w fun x => c x y)) ah = some ((List.range h).map (fun y => D.str (rowS w fun x => c (w - 1 - x) y)), ah) :=
    compGo_map (i := fun y : Nat => D.str (rowS w fun x => c x y)) fun y hy => ⟨_, rfl, rfl, (rv_str rfl (by rw [rowS_len]; omega)).trans (by rw [rowS_rev])⟩
  have hs : s_mirrored [some (fD w h c), none] ah = some (.rt (fD w h (mirC w c)), ah) := by
    unfold s_mirrored
    exact ret_ev (e1_ev (frz_ev ((comp_ev (iAny_tup rfl) (by simp; omega)).trans e2)) (tup_lst _ _))
  exact (fn_rt rfl hs).trans (by rw [trim_self])
theorem ix_str {m b : ME} {δ : DL} {ah ah1 ah2 : AH} {z : Str} {i c : Nat} (h : m δ ah = some (.str z, ah1)) (hb : b δ ah1 = some (.int (i : Nat), ah2)) (hz : z.length ≤ 100000) (e : z.cps.toList[i]? = some c) : eIx m b δ ah = some (.str ⟨#[c]⟩, ah2) := by
  refine bin_ev h hb ?_
  have hi := (List.getElem?_eq_some_iff.mp e).1
  have hi2 : i < z.cps.size := by simpa using hi
  simp only [gIx, asK, hz, if_true]
  rw [atI, ixN, if_pos (by omega), if_pos (by simpa using hi2)]
  show Option.map _ (z.cps.toList[((i : Nat) : Int).toNat]?) = _
  rw [Int.toNat_natCast, e]
  rfl
theorem rowS_get {w x : Nat} {r : Nat → Bool} (hx : x < w) : (rowS w r).cps.toList[x]? = some (sg (r x)) := by
  rw [rowS_cps]
  simp [hx]
theorem ev_quarter_turned {w h : Nat} {c : Cell} (h2 : w ≤ 6) (h3 : 1 ≤ h) (h4 : h ≤ 6) (ah : AH) : f_quarter_turned [fD w h c] ah = some (fD h w (rotC h c), ah) := by
  have inner : ∀ x, x < w → eFrz (fComp (iAny (eRv (eVar 0))) (tgN 2) tYesM (eIx (eVar 2) (eVar 1)) [2]) [some (fD w h c), some (.int (x : Nat)), none] ah = some (.lst ((List.range h).map fun y => .str ⟨#[sg (c x (h - 1 - y))]⟩), ah) := fun x hx => by
    have e0 : ((List.range h).map fun y => D.str (rowS w fun x => c x y)).reverse = (List.range h).map fun y => D.str (rowS w fun x => c x (h - 1 - y)) := by
      rw [← List.map_reverse, ← PySem.W.krv_range, List.map_map]
      rfl
    refine frz_ev ((comp_ev (iAny_tup (rv_tup rfl)) (by simp; omega)).trans ?_)
    rw [e0]
    exact compGo_map (i := fun y : Nat => D.str (rowS w fun x => c x (h - 1 - y))) (f := fun y : Nat => D.str ⟨#[sg (c x (h - 1 - y))]⟩) fun y hy => ⟨_, rfl, rfl, ix_str rfl rfl (by rw [rowS_len]; omega) (rowS_get hx)⟩
  have e2 : compGo (tgN 1) tYesM (eJoin (eC (.str "")) (eFrz (fComp (iAny (eRv (eVar 0))) (tgN 2) tYesM (eIx (eVar 2) (eVar 1)) [2]))) [some (fD w h c), none, none] ((List.range w).map fun i => D.int (i : Nat)) ah = some ((List.range w).map (fun x => D.str (rowS h fun y => c x (h - 1 - y))), ah) :=
    compGo_map (i := fun x : Nat => D.int (x : Nat)) fun x hx => ⟨[some (fD w h c), some (.int (x : Nat)), none], rfl, rfl, (join_ev (f := fun y => sg (c x (h - 1 - y))) rfl (inner x (List.mem_range.mp hx)) (by simp; omega)).trans rfl⟩
  have a1 : e1 gLen (eIx (eVar 0) (eC (.int 0))) [some (fD w h c), none, none] ah = some (.int w, ah) := by
    have := len_str (m := eIx (eVar 0) (eC (.int 0))) (δ := [some (fD w h c), none, none]) (ah := ah) (ix_tup rfl rfl (fD_row (y := 0) (by omega))) (by rw [rowS_len]; omega)
    rw [rowS_len] at this
    exact this
  have hs : s_quarter_turned [some (fD w h c), none, none] ah = some (.rt (fD h w (rotC h c)), ah) := by
    unfold s_quarter_turned
    exact ret_ev (e1_ev (frz_ev ((comp_ev (rng1 a1 (by omega)) (by simp; omega)).trans e2)) (tup_lst _ _))
  exact (fn_rt rfl hs).trans (by rw [trim_self])
theorem ev_laid_sign (a b : Bool) (ah : AH) : f_laid_sign [.str ⟨#[sg a]⟩, .str ⟨#[sg b]⟩] ah = some (.str ⟨#[sg (a != b)]⟩, ah) := by
  have hs : s_laid_sign [some (.str ⟨#[sg a]⟩), some (.str ⟨#[sg b]⟩)] ah = some (.rt (.str ⟨#[sg (a != b)]⟩), ah) := by
    cases a <;> cases b <;> rfl
  exact (fn_rt rfl hs).trans (by rw [trim_self])
end K88

set_option linter.all false
set_option maxRecDepth 100000
namespace K88
open PySem L2 MM
theorem set_end (ah : AH) (o u : AO) : (ah ++ [o]).set ah.length u = ah ++ [u] := by simp
theorem lstAt_end (ah : AH) (l : List D) : lstAt (ah ++ [.lst l]) ah.length = some l := by simp [lstAt]
theorem app_ev {k : Nat} {e : ME} {δ : DL} {ah : AH} {acc : List D} {d : D} (hk : δ[k]? = some (some (.ptr ah.length))) (he : e δ (ah ++ [.lst acc]) = some (d, ah ++ [.lst acc])) (hl : acc.length < 100000) : eMut gAppend (eVar k) (aCons e aNil) δ (ah ++ [.lst acc]) = some (.non, ah ++ [.lst (acc ++ [d])]) := by
  have h1 : eVar k δ (ah ++ [.lst acc]) = some (.ptr ah.length, ah ++ [.lst acc]) := by simp [eVar, hk]
  simp [eMut, h1, aCons, aNil, he, lstAt_end, gAppend, hl, set_end]
theorem app_loop {g : D → DL → Option DL} {k : Nat} {e : ME} {α : Type} {i : α → D} {F : α → D} {ah : AH} {J : DL → Prop} : ∀ {l : List α} {acc : List D} {δ : DL}, J δ → acc.length + l.length < 100000 →
    (∀ x ∈ l, ∀ δ, J δ → ∃ δ1, g (i x) δ = some δ1 ∧ J δ1 ∧ δ1[k]? = some (some (.ptr ah.length)) ∧ ∀ ah1, e δ1 ah1 = some (F x, ah1)) →
    ∃ δ', J δ' ∧ forGo g (sExpr (eMut gAppend (eVar k) (aCons e aNil))) (l.map i) δ (ah ++ [.lst acc]) = some (.nx δ', ah ++ [.lst (acc ++ l.map F)])
  | [], acc, δ, hj, hl, h => ⟨δ, hj, by simp [forGo, sNil]⟩
  | x :: r, acc, δ, hj, hl, h => by
    simp only [List.length_cons] at hl
    obtain ⟨δ1, h1, h2, h3, h4⟩ := h x (by simp) δ hj
    obtain ⟨δ', k1, k2⟩ := app_loop (g := g) (k := k) (e := e) (i := i) (F := F) (ah := ah) (J := J) (l := r) (acc := acc ++ [F x]) (δ := δ1) h2 (by simp; omega) fun y hy => h y (by simp [hy])
    refine ⟨δ', k1, ?_⟩
    have e1 := exp_ev (app_ev (acc := acc) h3 (h4 _) (by omega))
    simp only [List.map_cons, forGo, h1, e1, Option.bind_some, k2]
    simp
theorem zip_map {α : Type} (f g : α → D) : ∀ l : List α, zipD (l.map f) (l.map g) = l.map fun x => .tup [f x, g x]
  | [] => rfl
  | x :: r => by rw [List.map_cons, List.map_cons, zipD, zip_map f g r, List.map_cons]
theorem zip_ev {a b : ME} {δ : DL} {ah ah1 ah2 : AH} {x y : D} {l m : List D} (h1 : a δ ah = some (x, ah1)) (h2 : b δ ah1 = some (y, ah2)) (e1 : gIter x = some l) (e2 : gIter y = some m) : iZipM a b δ ah = some (zipD l m, ah2) := by
  simp [iZipM, h1, h2, e1, e2]
theorem signs_row (w : Nat) (r : Nat → Bool) : signs (rowS w r) = (List.range w).map fun x => .str ⟨#[sg (r x)]⟩ := by
  unfold signs
  rw [rowS_cps, List.map_map]
  rfl
theorem tup_ptr {k : Nat} {δ : DL} {ah : AH} {l : List D} (hk : δ[k]? = some (some (.ptr ah.length))) : e1 gTuple (eVar k) δ (ah ++ [.lst l]) = some (.tup l, ah ++ [.lst l]) := by
  have h1 : eVar k δ (ah ++ [.lst l]) = some (.ptr ah.length, ah ++ [.lst l]) := by simp [eVar, hk]
  refine e1_ev h1 ?_
  simp [gTuple, asL]
def xorC (c e : Cell) : Cell := fun x y => c x y != e x y
theorem fD_bd (n w h : Nat) (c : Cell) : D.bd n (fD w h c) = true := by
  have : ∀ l : List Nat, D.bds n (l.map fun y => .str (rowS w fun x => c x y)) = true := fun l => by
    induction l with
    | nil => rfl
    | cons a r ih => simp [D.bds, D.bd, ih]
  simp [fD, D.bd, this]
theorem trim_app {ah g : AH} {d : D} (hd : D.bd ah.length d = true) (hb : Bd ah) : trim ah (d, ah ++ g) = (d, ah) := trim_len rfl hd hb
theorem ev_laid_two {w h : Nat} {c e : Cell} (h2 : w ≤ 6) (h4 : h ≤ 6) {ah : AH} (hb : Bd ah) : f_laid_two [fD w h c, fD w h e] ah = some (fD w h (xorC c e), ah) := by
  have step : ∀ y, y < h → ∀ δ1 : DL, δ1[3]? = some (some (.str (rowS w fun x => c x y))) → δ1[4]? = some (some (.str (rowS w fun x => e x y))) → δ1.length = 7 → ∀ ah1 : AH, eJoin (eC (.str "")) (eFrz (fComp (iZipM (eVar 3) (eVar 4)) (tgT (tgCons (tgN 5) (tgCons (tgN 6) tgNil))) tYesM (eCall f_laid_sign (aCons (eVar 5) (aCons (eVar 6) aNil))) [5, 6])) δ1 ah1 = some (.str (rowS w fun x => xorC c e x y), ah1) := fun y hy δ1 d3 d4 dl ah1 => by
    have v3 : eVar 3 δ1 ah1 = some (.str (rowS w fun x => c x y), ah1) := by simp [eVar, d3]
    have v4 : eVar 4 δ1 ah1 = some (.str (rowS w fun x => e x y), ah1) := by simp [eVar, d4]
    have hw : (wipeD δ1 [5, 6]).length = 7 := by rw [wipeD_length, dl]
    refine (join_ev (f := fun x => sg (xorC c e x y)) (l := List.range w) rfl (frz_ev ((comp_ev (zip_ev v3 v4 rfl rfl) ?_).trans ?_)) (by simp; omega)).trans rfl
    · rw [zipD_len, signs_row, signs_row]
      simp
      omega
    · rw [signs_row, signs_row, zip_map]
      refine compGo_map (i := fun x : Nat => D.tup [.str ⟨#[sg (c x y)]⟩, .str ⟨#[sg (e x y)]⟩]) fun x hx => ⟨_, rfl, rfl, ?_⟩
      refine (call_ev ?_).trans (ev_laid_sign (c x y) (e x y) ah1)
      have g5 : (((wipeD δ1 [5, 6]).set 5 (some (.str ⟨#[sg (c x y)]⟩))).set 6 (some (.str ⟨#[sg (e x y)]⟩)))[5]? = some (some (.str ⟨#[sg (c x y)]⟩)) := by
        rw [List.getElem?_set_ne (by decide), List.getElem?_set_self (by omega)]
      have g6 : (((wipeD δ1 [5, 6]).set 5 (some (.str ⟨#[sg (c x y)]⟩))).set 6 (some (.str ⟨#[sg (e x y)]⟩)))[6]? = some (some (.str ⟨#[sg (e x y)]⟩)) := by
        rw [List.getElem?_set_self (by simp; omega)]
      simp [aCons, aNil, eVar, g5, g6]
  obtain ⟨δ', hj, hl⟩ := app_loop (g := tgT (tgCons (tgN 3) (tgCons (tgN 4) tgNil))) (k := 2) (e := eJoin (eC (.str "")) (eFrz (fComp (iZipM (eVar 3) (eVar 4)) (tgT (tgCons (tgN 5) (tgCons (tgN 6) tgNil))) tYesM (eCall f_laid_sign (aCons (eVar 5) (aCons (eVar 6) aNil))) [5, 6])))
    (i := fun y : Nat => D.tup [.str (rowS w fun x => c x y), .str (rowS w fun x => e x y)]) (F := fun y => .str (rowS w fun x => xorC c e x y)) (ah := ah) (J := fun δ => δ.length = 7 ∧ δ[2]? = some (some (.ptr ah.length))) (l := List.range h) (acc := []) (δ := [some (fD w h c), some (fD w h e), some (.ptr ah.length), none, none, none, none])
    ⟨rfl, rfl⟩ (by simp; omega) fun y hy δ ⟨hd, hk⟩ => ⟨_, rfl, ⟨by simpa using hd, by rw [List.getElem?_set_ne (by decide), List.getElem?_set_ne (by decide)]; exact hk⟩, by rw [List.getElem?_set_ne (by decide), List.getElem?_set_ne (by decide)]; exact hk,
      step y (List.mem_range.mp hy) _ (by rw [List.getElem?_set_ne (by decide), List.getElem?_set_self (by omega)]) (by rw [List.getElem?_set_self (by simp; omega)]) (by simpa using hd)⟩
  have hs : s_laid_two [some (fD w h c), some (fD w h e), none, none, none, none, none] ah = some (.rt (fD w h (xorC c e)), ah ++ [.lst ((List.range h).map fun y => .str (rowS w fun x => xorC c e x y))]) := by
    unfold s_laid_two
    rw [seq_nx (asg_ev (own_ev (l := []) (ah1 := ah) rfl))]
    rw [seq_nx (δ1 := δ') (ah1 := ah ++ [.lst ((List.range h).map fun y => .str (rowS w fun x => xorC c e x y))])]
    · exact ret_ev (tup_ptr hj.2)
    · refine (for_ev (zip_ev rfl rfl rfl rfl)).trans ?_
      rw [zip_map]
      simpa using hl
  refine (fn_rt rfl hs).trans ?_
  rw [trim_app (fD_bd _ _ _ _) hb]
end K88

set_option linter.all false
set_option maxRecDepth 100000
namespace MM
open PySem L2
/-! ### equality of plain data -/
def pb : Nat → D → Bool
  | _, .non => true
  | _, .int _ => true
  | _, .str z => PyData.strOk z
  | n + 1, .tup l => l.all (pb n)
  | n + 1, .lst l => l.all (pb n)
  | _, _ => false
def isLst : D → Bool | .lst _ => true | _ => false
theorem pb_py : ∀ (n : Nat) (d : D), pb n d = true → ∃ p, D.py d = some p ∧ p.canLay0 = true ∧ p.depth ≤ n + 1 := by
  intro n
  induction n with
  | zero =>
    intro d h
    cases d with
    | non => exact ⟨_, by rw [D.py], rfl, by simp [PyData.depth]⟩
    | int i => exact ⟨_, by rw [D.py], rfl, by simp [PyData.depth]⟩
    | str z => exact ⟨_, by rw [D.py], by simpa [pb, PyData.canLay0] using h, by simp [PyData.depth]⟩
    | _ => simp [pb] at h
  | succ n ih =>
    have all : ∀ l : List D, l.all (pb n) = true → ∃ ps, D.pys l = some ps ∧ PyData.canLayAll0 ps = true ∧ PyData.depthAll ps ≤ n + 1 := fun l => by
      induction l with
      | nil => exact fun _ => ⟨[], by rw [D.pys], by rw [PyData.canLayAll0], by simp [PyData.depthAll]⟩
      | cons a r ihl =>
        intro h
        rw [List.all_cons, Bool.and_eq_true] at h
        obtain ⟨p, h1, h2, h3⟩ := ih a h.1
        obtain ⟨ps, k1, k2, k3⟩ := ihl h.2
        exact ⟨p :: ps, by simp [D.pys, h1, k1], by simp [PyData.canLayAll0, h2, k2], by simp [PyData.depthAll]; omega⟩
    intro d h
    cases d with
    | non => exact ⟨_, by rw [D.py], rfl, by simp [PyData.depth]⟩
    | int i => exact ⟨_, by rw [D.py], rfl, by simp [PyData.depth]⟩
    | str z => exact ⟨_, by rw [D.py], by simpa [pb, PyData.canLay0] using h, by simp [PyData.depth]⟩
    | tup l =>
      obtain ⟨ps, k1, k2, k3⟩ := all l (by simpa [pb] using h)
      exact ⟨.tuple ps, by simp [D.py, k1], by simpa [PyData.canLay0] using k2, by simp [PyData.depth]; omega⟩
    | lst l =>
      obtain ⟨ps, k1, k2, k3⟩ := all l (by simpa [pb] using h)
      exact ⟨.list ps, by simp [D.py, k1], by simpa [PyData.canLay0] using k2, by simp [PyData.depth]; omega⟩
    | _ => simp [pb] at h
theorem beq_dec {α : Type} [DecidableEq α] (a b : α) : (a == b) = decide (a = b) := by
  by_cases h : a = b <;> simp [h]
theorem pb_eqv : ∀ (n : Nat) (x y : D) (p q : PyData), pb n x = true → pb n y = true → D.py x = some p → D.py y = some q → PyData.eqv p q = decide (x = y) := by
  intro n
  induction n with
  | zero =>
    intro x y p q hx hy ex ey
    cases x <;> first | (simp [pb] at hx; done) | skip
    all_goals (cases y <;> first | (simp [pb] at hy; done) | skip)
    all_goals
      simp only [D.py, Option.some.injEq] at ex ey
      subst ex ey
      first | (simp [PyData.eqv]; done) | (simp only [PyData.eqv, D.int.injEq, D.str.injEq]; exact beq_dec _ _)
  | succ n ih =>
    have all : ∀ (l m : List D) (ps qs : List PyData), l.all (pb n) = true → m.all (pb n) = true → D.pys l = some ps → D.pys m = some qs → PyData.eqvAll ps qs = decide (l = m) := fun l => by
      induction l with
      | nil =>
        intro m ps qs hl hm el em
        simp only [D.pys, Option.some.injEq] at el
        subst el
        cases m with
        | nil =>
          simp only [D.pys, Option.some.injEq] at em
          subst em
          simp [PyData.eqvAll]
        | cons b s =>
          simp only [D.pys] at em
          obtain ⟨q, h1, h2⟩ := Option.bind_eq_some_iff.mp em
          obtain ⟨qs', h3, rfl⟩ := Option.map_eq_some_iff.mp h2
          simp [PyData.eqvAll]
      | cons a r ihl =>
        intro m ps qs hl hm el em
        simp only [D.pys] at el
        obtain ⟨p, h1, h2⟩ := Option.bind_eq_some_iff.mp el
        obtain ⟨ps', h3, rfl⟩ := Option.map_eq_some_iff.mp h2
        rw [List.all_cons, Bool.and_eq_true] at hl
        cases m with
        | nil =>
          simp only [D.pys, Option.some.injEq] at em
          subst em
          simp [PyData.eqvAll]
        | cons b s =>
          simp only [D.pys] at em
          obtain ⟨q, k1, k2⟩ := Option.bind_eq_some_iff.mp em
          obtain ⟨qs', k3, rfl⟩ := Option.map_eq_some_iff.mp k2
          rw [List.all_cons, Bool.and_eq_true] at hm
          rw [PyData.eqvAll, ih a b p q hl.1 hm.1 h1 k1, ihl s ps' qs' hl.2 hm.2 h3 k3]
          simp
    intro x y p q hx hy ex ey
    cases x <;> first | (simp [pb] at hx; done) | skip
    all_goals (cases y <;> first | (simp [pb] at hy; done) | skip)
    all_goals
      simp only [D.py, Option.some.injEq, Option.map_eq_some_iff] at ex ey
      try obtain ⟨ps, e1, rfl⟩ := ex
      try obtain ⟨qs, e2, rfl⟩ := ey
      try subst ex
      try subst ey
      first
        | (rw [PyData.eqv, all _ _ _ _ (by simpa [pb] using hx) (by simpa [pb] using hy) e1 e2]; simp; done)
        | (simp [PyData.eqv]; done)
        | (simp only [PyData.eqv, D.int.injEq, D.str.injEq]; exact beq_dec _ _)
theorem pb_up : ∀ {n : Nat} {d : D}, pb n d = true → pb (n + 1) d = true := by
  intro n
  induction n with
  | zero => intro d h; cases d <;> simp_all [pb]
  | succ n ih =>
    intro d h
    cases d <;> simp_all [pb]
/-- == of plain data -/
theorem dEq_pb {n : Nat} {ah : AH} {x y : D} (hn : n ≤ 60) (hx : pb n x = true) (hy : pb n y = true) : dEq ah x y = some (decide (x = y)) := by
  obtain ⟨p, e1, c1, d1⟩ := pb_py n x hx
  obtain ⟨q, e2, c2, d2⟩ := pb_py n y hy
  have sh : (SeqAt.shaped p && SeqAt.shaped q) = true := by
    simp only [SeqAt.shaped, Bool.and_eq_true, decide_eq_true_eq]
    exact ⟨⟨c1, by omega⟩, c2, by omega⟩
  have go : ((topPy ah x).bind fun p => (topPy ah y).bind fun r => if (SeqAt.shaped p && SeqAt.shaped r) = true then some (PyData.eqv p r) else none) = some (decide (x = y)) := by
    have t1 : topPy ah x = some p := by cases x <;> first | exact e1 | (simp [D.py] at e1)
    have t2 : topPy ah y = some q := by cases y <;> first | exact e2 | (simp [D.py] at e2)
    rw [t1, t2, Option.bind_some, Option.bind_some, if_pos sh, pb_eqv n x y p q hx hy e1 e2]
  cases x <;> cases y <;> first | exact go | (simp [dEq]; done) | (simp [pb] at hx; done) | (simp [pb] at hy; done)
/-- x in a list of plain data -/
theorem gIn_pb {n : Nat} {ah : AH} {x : D} {l : List D} (hn : n ≤ 60) (hx : pb n x = true) (hl : l.all (pb n) = true) (hs : ∀ z, x ≠ .str z) (hi : ∀ l, (.lst l : D) ≠ x) : gIn ah x (.lst l) = some (.bl (decide (x ∈ l))) := by
  obtain ⟨p, e1, c1, d1⟩ := pb_py n x hx
  obtain ⟨q, e2, c2, d2⟩ := pb_py (n + 1) (.lst l) (by simpa [pb] using hl)
  obtain ⟨ps, e3, rfl⟩ := Option.map_eq_some_iff.mp (show (D.pys l).map PyData.list = some q by simpa [D.py] using e2)
  have sh : (SeqAt.shaped p && SeqAt.shaped (.list ps)) = true := by
    simp only [SeqAt.shaped, Bool.and_eq_true, decide_eq_true_eq]
    exact ⟨⟨c1, by omega⟩, c2, by omega⟩
  have t1 : topPy ah x = some p := by cases x <;> first | exact e1 | (simp [D.py] at e1)
  have anyE : ∀ (l : List D) (ps : List PyData), l.all (pb n) = true → D.pys l = some ps → (ps.any fun z => PyData.eqv z p) = decide (x ∈ l) := fun l => by
    induction l with
    | nil =>
      intro ps _ e
      simp only [D.pys, Option.some.injEq] at e
      subst e
      rfl
    | cons a r ih =>
      intro ps hl e
      simp only [D.pys] at e
      obtain ⟨p', h1, h2⟩ := Option.bind_eq_some_iff.mp e
      obtain ⟨ps', h3, rfl⟩ := Option.map_eq_some_iff.mp h2
      rw [List.all_cons, Bool.and_eq_true] at hl
      rw [List.any_cons, pb_eqv n a x p' p hl.1 hx h1 e1, ih ps' hl.2 h3]
      rw [Bool.eq_iff_iff, Bool.or_eq_true, decide_eq_true_eq, decide_eq_true_eq, decide_eq_true_eq, List.mem_cons]
      exact or_congr ⟨Eq.symm, Eq.symm⟩ Iff.rfl
  have go : dIn ah x (.lst l) = some (decide (x ∈ l)) := by
    have core : ((topPy ah x).bind fun p => (asL ah (.lst l)).bind fun l => (D.pys l).bind fun ps => if (SeqAt.shaped p && SeqAt.shaped (.list ps)) = true then some (ps.any fun z => PyData.eqv z p) else none) = some (decide (x ∈ l)) := by
      rw [t1, Option.bind_some]
      show ((D.pys l).bind _) = _
      rw [e3, Option.bind_some, if_pos sh, anyE l ps hl e3]
    cases x <;> first | exact core | exact absurd rfl (hs _)
  rw [gIn, go]
  rfl
end MM

set_option linter.all false
set_option maxRecDepth 100000
namespace K88
open PySem L2 MM
/-! ### turned faces, the law's way -/
def pD (p : Int × Int) : D := .tup [.int p.1, .int p.2]
theorem ext_ev {k : Nat} {e : ME} {δ : DL} {ah : AH} {acc m : List D} (hk : δ[k]? = some (some (.ptr ah.length))) (he : e δ (ah ++ [.lst acc]) = some (.lst m, ah ++ [.lst acc])) (hl : acc.length + m.length ≤ 100000) : eMut gExtend (eVar k) (aCons e aNil) δ (ah ++ [.lst acc]) = some (.non, ah ++ [.lst (acc ++ m)]) := by
  have h1 : eVar k δ (ah ++ [.lst acc]) = some (.ptr ah.length, ah ++ [.lst acc]) := by simp [eVar, hk]
  simp [eMut, h1, aCons, aNil, he, lstAt_end, gExtend, asL, hl, set_end]
theorem ext_loop {g : D → DL → Option DL} {k : Nat} {e : ME} {α : Type} {i : α → D} {F : α → List D} {ah : AH} {J : DL → Prop} {B : Nat} : ∀ {l : List α} {acc : List D} {δ : DL}, J δ → (∀ x ∈ l, (F x).length ≤ B) → acc.length + l.length * B ≤ 100000 →
    (∀ x ∈ l, ∀ δ, J δ → ∃ δ1, g (i x) δ = some δ1 ∧ J δ1 ∧ δ1[k]? = some (some (.ptr ah.length)) ∧ ∀ ah1, e δ1 ah1 = some (.lst (F x), ah1)) →
    ∃ δ', J δ' ∧ forGo g (sExpr (eMut gExtend (eVar k) (aCons e aNil))) (l.map i) δ (ah ++ [.lst acc]) = some (.nx δ', ah ++ [.lst (acc ++ l.flatMap F)])
  | [], acc, δ, hj, hB, hl, h => ⟨δ, hj, by simp [forGo, sNil]⟩
  | x :: r, acc, δ, hj, hB, hl, h => by
    rw [List.length_cons, Nat.succ_mul] at hl
    have hx := hB x (by simp)
    obtain ⟨δ1, h1, h2, h3, h4⟩ := h x (by simp) δ hj
    obtain ⟨δ', k1, k2⟩ := ext_loop (g := g) (k := k) (e := e) (i := i) (F := F) (ah := ah) (J := J) (B := B) (l := r) (acc := acc ++ F x) (δ := δ1) h2 (fun y hy => hB y (by simp [hy])) (by rw [List.length_append]; omega) fun y hy => h y (by simp [hy])
    refine ⟨δ', k1, ?_⟩
    have e1 := exp_ev (ext_ev (acc := acc) h3 (h4 _) (by omega))
    simp only [List.map_cons, forGo, h1, e1, Option.bind_some, k2]
    simp
/-- the cells are just those that are up -/
structure Rep (w h : Nat) (c : Cell) (cs : List (Int × Int)) : Prop where
  inn : ∀ p ∈ cs, ∃ x y : Nat, p = (((x : Nat) : Int), ((y : Nat) : Int)) ∧ x < w ∧ y < h ∧ c x y = true
  all : ∀ x y : Nat, x < w → y < h → c x y = true → (((x : Nat) : Int), ((y : Nat) : Int)) ∈ cs
theorem Rep.mir {w h : Nat} {c : Cell} {cs : List (Int × Int)} (r : Rep w h c cs) : Rep w h (mirC w c) (cs.map fun p => ((w : Int) - 1 - p.1, p.2)) := by
  constructor
  · intro p hp
    obtain ⟨q, hq, rfl⟩ := List.mem_map.mp hp
    obtain ⟨x, y, rfl, hx, hy, hc⟩ := r.inn q hq
    refine ⟨w - 1 - x, y, ?_, by omega, hy, ?_⟩
    · exact Prod.ext (by show (w : Int) - 1 - (x : Int) = ((w - 1 - x : Nat) : Int); omega) rfl
    · unfold mirC
      rw [show w - 1 - (w - 1 - x) = x by omega]
      exact hc
  · intro x y hx hy hc
    refine List.mem_map.mpr ⟨_, r.all (w - 1 - x) y (by omega) hy hc, ?_⟩
    exact Prod.ext (by show (w : Int) - 1 - ((w - 1 - x : Nat) : Int) = (x : Int); omega) rfl
theorem Rep.rot {w h : Nat} {c : Cell} {cs : List (Int × Int)} (r : Rep w h c cs) : Rep h w (rotC h c) (cs.map fun p => ((h : Int) - 1 - p.2, p.1)) := by
  constructor
  · intro p hp
    obtain ⟨q, hq, rfl⟩ := List.mem_map.mp hp
    obtain ⟨x, y, rfl, hx, hy, hc⟩ := r.inn q hq
    refine ⟨h - 1 - y, x, ?_, by omega, hx, ?_⟩
    · exact Prod.ext (by show (h : Int) - 1 - (y : Int) = ((h - 1 - y : Nat) : Int); omega) rfl
    · unfold rotC
      rw [show h - 1 - (h - 1 - y) = y by omega]
      exact hc
  · intro x y hx hy hc
    refine List.mem_map.mpr ⟨_, r.all y (h - 1 - x) hy (by omega) hc, ?_⟩
    exact Prod.ext (by show (h : Int) - 1 - ((h - 1 - x : Nat) : Int) = (x : Int); omega) rfl
theorem Rep.mem {w h : Nat} {c : Cell} {cs : List (Int × Int)} (r : Rep w h c cs) {x y : Nat} (hx : x < w) (hy : y < h) : decide (pD (((x : Nat) : Int), ((y : Nat) : Int)) ∈ cs.map pD) = c x y := by
  have inj : ∀ p q, pD p = pD q → p = q := fun p q e => by
    simp only [pD, D.tup.injEq, List.cons.injEq, D.int.injEq, and_true] at e
    exact Prod.ext e.1 e.2
  cases hc : c x y with
  | true =>
    exact decide_eq_true (List.mem_map.mpr ⟨_, r.all x y hx hy hc, rfl⟩)
  | false =>
    refine decide_eq_false fun hm => ?_
    obtain ⟨p, hp, e⟩ := List.mem_map.mp hm
    rw [inj _ _ e] at hp
    obtain ⟨x', y', e2, _, _, hc'⟩ := r.inn _ hp
    simp only [Prod.mk.injEq] at e2
    have ex : x' = x := by omega
    have ey : y' = y := by omega
    rw [ex, ey, hc] at hc'
    cases hc'
theorem pD_all (cs : List (Int × Int)) : (cs.map pD).all (pb 1) = true := by
  rw [List.all_map, List.all_eq_true]
  intro p _
  rfl
abbrev Box := Nat × Nat × Cell
def fB (b : Box) : D := fD b.1 b.2.1 b.2.2
def stepB (b : Box) : Box := (b.2.1, b.1, rotC b.2.1 b.2.2)
def stepK : Nat → Box → Box
  | 0, b => b
  | k + 1, b => stepB (stepK k b)
def turnB (m : Bool) (q : Nat) (b : Box) : Box := stepK q (if m = true then (b.1, b.2.1, mirC b.1 b.2.2) else b)
def tz (m : Bool) (q : Nat) : Str := ⟨#[if m = true then 109 else 114, 48 + q]⟩
def Small (b : Box) : Prop := 1 ≤ b.1 ∧ b.1 ≤ 6 ∧ 1 ≤ b.2.1 ∧ b.2.1 ≤ 6
theorem Small.step {b : Box} (h : Small b) : Small (stepB b) := ⟨h.2.2.1, h.2.2.2, h.1, h.2.1⟩
theorem Small.stepK {b : Box} (h : Small b) : ∀ k, Small (stepK k b)
  | 0 => h
  | k + 1 => (Small.stepK h k).step
theorem pt_comp {cs : List (Int × Int)} {F : Int × Int → Int × Int} {δ : DL} {ah : AH} {a b : ME} (hcs : cs.length ≤ 100000) (h2 : δ[2]? = some (some (.lst (cs.map pD)))) (hl : δ.length = 8)
    (hab : ∀ p : Int × Int, ∀ δ1 : DL, δ1 = ((wipeD δ [7, 3]).set 7 (some (.int p.1))).set 3 (some (.int p.2)) → a δ1 ah = some (.int (F p).1, ah) ∧ b δ1 ah = some (.int (F p).2, ah)) :
    eFrz (fComp (iAny (eVar 2)) (tgT (tgCons (tgN 7) (tgCons (tgN 3) tgNil))) tYesM (eTup (aCons a (aCons b aNil))) [7, 3]) δ ah = some (.lst ((cs.map F).map pD), ah) := by
  have v2 : eVar 2 δ ah = some (.lst (cs.map pD), ah) := by simp [eVar, h2]
  refine frz_ev ((comp_ev (iAny_lst v2) (by rw [List.length_map]; exact hcs)).trans ?_)
  rw [List.map_map]
  refine compGo_map (i := pD) fun p hp => ⟨_, rfl, rfl, ?_⟩
  obtain ⟨e1, e2⟩ := hab p _ rfl
  simp [eTup, aCons, aNil, e1, e2, pD]
end K88

set_option linter.all false
set_option maxRecDepth 100000
namespace K88
open PySem L2 MM
def cells0 (b : Box) : List (Int × Int) := (List.range b.2.1).flatMap fun y => ((List.range b.1).filter fun x => b.2.2 x y).map fun x => (((x : Nat) : Int), ((y : Nat) : Int))
theorem cells0_rep (b : Box) : Rep b.1 b.2.1 b.2.2 (cells0 b) := by
  constructor
  · intro p hp
    obtain ⟨y, hy, hp⟩ := List.mem_flatMap.mp hp
    obtain ⟨x, hx, rfl⟩ := List.mem_map.mp hp
    obtain ⟨hx, hc⟩ := List.mem_filter.mp hx
    exact ⟨x, y, rfl, List.mem_range.mp hx, List.mem_range.mp hy, hc⟩
  · intro x y hx hy hc
    exact List.mem_flatMap.mpr ⟨y, List.mem_range.mpr hy, List.mem_map.mpr ⟨x, List.mem_filter.mpr ⟨List.mem_range.mpr hx, hc⟩, rfl⟩⟩
theorem flat_len {α β : Type} {B : Nat} (f : α → List β) : ∀ {l : List α}, (∀ x ∈ l, (f x).length ≤ B) → (l.flatMap f).length ≤ l.length * B
  | [], _ => by simp
  | a :: r, h => by
    have := flat_len (B := B) f (l := r) fun x hx => h x (by simp [hx])
    have h2 := h a (by simp)
    rw [List.flatMap_cons, List.length_append, List.length_cons, Nat.succ_mul]
    omega
theorem cells0_len {b : Box} (hs : Small b) : (cells0 b).length ≤ 36 := by
  have := flat_len (B := 6) (fun y => ((List.range b.1).filter fun x => b.2.2 x y).map fun x => (((x : Nat) : Int), ((y : Nat) : Int))) (l := List.range b.2.1) fun y _ => by
    rw [List.length_map]
    refine Nat.le_trans (List.length_filter_le _ _) ?_
    rw [List.length_range]
    exact hs.2.1
  rw [List.length_range] at this
  have h6 := hs.2.2.2
  show (List.flatMap _ _).length ≤ 36
  omega
/-- the locals behind the first loop -/
structure Jst (T : D) (δ : DL) (b : Box) (cs : List (Int × Int)) : Prop where
  len : δ.length = 8
  t : δ[1]? = some (some T)
  ls : δ[2]? = some (some (.lst (cs.map pD)))
  w : δ[4]? = some (some (.int b.1))
  h : δ[5]? = some (some (.int b.2.1))
  rep : Rep b.1 b.2.1 b.2.2 cs
  sz : cs.length ≤ 36
  sm : Small b
theorem get_set_ne {δ : DL} {i j : Nat} {x : Option D} (h : i ≠ j) : (δ.set i x)[j]? = δ[j]? := List.getElem?_set_ne h
theorem get_set {δ : DL} {i : Nat} {x : Option D} (h : i < δ.length) : (δ.set i x)[i]? = some x := List.getElem?_set_self h
theorem wipe_get_ne {δ : DL} {j : Nat} : ∀ {vs : List Nat}, j ∉ vs → (wipeD δ vs)[j]? = δ[j]?
  | [], _ => rfl
  | v :: vs, h => by
    rw [wipeD, get_set_ne (fun e => h (by simp [e])), wipe_get_ne fun hm => h (by simp [hm])]
theorem wipe_len {δ : DL} {vs : List Nat} : (wipeD δ vs).length = δ.length := wipeD_length δ vs
theorem var_ev {i : Nat} {δ : DL} {ah : AH} {d : D} (h : δ[i]? = some (some d)) : eVar i δ ah = some (d, ah) := by simp [eVar, h]
theorem sub_ev {a b : ME} {δ : DL} {ah ah1 ah2 : AH} {i j : Int} (h1 : a δ ah = some (.int i, ah1)) (h2 : b δ ah1 = some (.int j, ah2)) : eBin gSub a b δ ah = some (.int (i - j), ah2) := bin_ev h1 h2 rfl
theorem idx0123 {q : Nat} (hq : q ≤ 3) (ah : AH) : gSIndex ah (.str "0123") (.str ⟨#[48 + q]⟩) = some (.int (q : Nat)) := by
  match q, hq with
  | 0, _ =>
    have e : Builtin.Str.occurrences ("0123" : Str) ⟨#[48]⟩ 0 ("0123" : Str).length 1 = [0] := by decide +kernel
    show (match Builtin.Str.occurrences ("0123" : Str) ⟨#[48]⟩ 0 ("0123" : Str).length 1 with | i :: _ => some (D.int (i : Nat)) | [] => none) = _
    rw [e]
  | 1, _ =>
    have e : Builtin.Str.occurrences ("0123" : Str) ⟨#[49]⟩ 0 ("0123" : Str).length 1 = [1] := by decide +kernel
    show (match Builtin.Str.occurrences ("0123" : Str) ⟨#[49]⟩ 0 ("0123" : Str).length 1 with | i :: _ => some (D.int (i : Nat)) | [] => none) = _
    rw [e]
  | 2, _ =>
    have e : Builtin.Str.occurrences ("0123" : Str) ⟨#[50]⟩ 0 ("0123" : Str).length 1 = [2] := by decide +kernel
    show (match Builtin.Str.occurrences ("0123" : Str) ⟨#[50]⟩ 0 ("0123" : Str).length 1 with | i :: _ => some (D.int (i : Nat)) | [] => none) = _
    rw [e]
  | 3, _ =>
    have e : Builtin.Str.occurrences ("0123" : Str) ⟨#[51]⟩ 0 ("0123" : Str).length 1 = [3] := by decide +kernel
    show (match Builtin.Str.occurrences ("0123" : Str) ⟨#[51]⟩ 0 ("0123" : Str).length 1 with | i :: _ => some (D.int (i : Nat)) | [] => none) = _
    rw [e]
theorem spun_loop {T : D} {ah : AH} {q : Nat} {b : Box} : ∀ {δ : DL} {cs : List (Int × Int)}, Jst T δ b cs → ∃ δ' cs', Jst T δ' (stepK q b) cs' ∧
    forGo (tgN 6) (sSeq (sAsg (tgN 2) (eFrz (fComp (iAny (eVar 2)) (tgT (tgCons (tgN 7) (tgCons (tgN 3) tgNil))) tYesM (eTup (aCons (eBin gSub (eBin gSub (eVar 5) (eC (.int 1))) (eVar 3)) (aCons (eVar 7) aNil))) [7, 3]))) (sAsg (tgT (tgCons (tgN 4) (tgCons (tgN 5) tgNil))) (eTup (aCons (eVar 5) (aCons (eVar 4) aNil))))) ((List.range q).map fun i => .int (i : Nat)) δ ah = some (.nx δ', ah) := by
  intro δ cs j
  obtain ⟨δ', ah', k1, k2⟩ := forGo_inv (g := tgN 6) (b := sSeq (sAsg (tgN 2) (eFrz (fComp (iAny (eVar 2)) (tgT (tgCons (tgN 7) (tgCons (tgN 3) tgNil))) tYesM (eTup (aCons (eBin gSub (eBin gSub (eVar 5) (eC (.int 1))) (eVar 3)) (aCons (eVar 7) aNil))) [7, 3]))) (sAsg (tgT (tgCons (tgN 4) (tgCons (tgN 5) tgNil))) (eTup (aCons (eVar 5) (aCons (eVar 4) aNil)))))
    (I := fun dn δ ah' => ah' = ah ∧ ∃ cs, Jst T δ (stepK dn.length b) cs) (l := (List.range q).map fun i => .int (i : Nat)) (done := []) ⟨rfl, cs, j⟩ fun dn d r δ ah' _ ⟨e, cs, j⟩ => by
      subst e
      have w4 := j.len
      have c1 := pt_comp (cs := cs) (F := fun p => (((stepK dn.length b).2.1 : Int) - 1 - p.2, p.1)) (δ := δ.set 6 (some d)) (ah := ah') (a := eBin gSub (eBin gSub (eVar 5) (eC (.int 1))) (eVar 3)) (b := eVar 7) (by have := j.sz; omega) (by rw [get_set_ne (by decide)]; exact j.ls) (by simpa using w4) fun p δ1 e => by
        subst e
        have l8 : (wipeD (δ.set 6 (some d)) [7, 3]).length = 8 := by rw [wipe_len]; simpa using w4
        refine ⟨sub_ev (sub_ev (var_ev (d := .int (stepK dn.length b).2.1) ?_) rfl) (var_ev ?_), var_ev ?_⟩
        · rw [get_set_ne (by decide), get_set_ne (by decide), wipe_get_ne (by decide), get_set_ne (by decide)]
          exact j.h
        · exact get_set (by simp [l8])
        · rw [get_set_ne (by decide)]
          exact get_set (by rw [l8]; decide)
      have l8 : ((δ.set 6 (some d)).set 2 (some (.lst ((cs.map fun p => (((stepK dn.length b).2.1 : Int) - 1 - p.2, p.1)).map pD)))).length = 8 := by simpa using w4
      refine ⟨_, (((δ.set 6 (some d)).set 2 (some (.lst ((cs.map fun p => (((stepK dn.length b).2.1 : Int) - 1 - p.2, p.1)).map pD)))).set 4 (some (.int (stepK dn.length b).2.1))).set 5 (some (.int (stepK dn.length b).1)), _, rfl, ?_, rfl, cs.map (fun p => (((stepK dn.length b).2.1 : Int) - 1 - p.2, p.1)), ?_⟩
      · rw [seq_nx (asg_ev c1)]
        have v5 : eVar 5 ((δ.set 6 (some d)).set 2 (some (.lst ((cs.map fun p => (((stepK dn.length b).2.1 : Int) - 1 - p.2, p.1)).map pD)))) ah' = some (.int (stepK dn.length b).2.1, ah') := var_ev (by rw [get_set_ne (by decide), get_set_ne (by decide)]; exact j.h)
        have v4 : eVar 4 ((δ.set 6 (some d)).set 2 (some (.lst ((cs.map fun p => (((stepK dn.length b).2.1 : Int) - 1 - p.2, p.1)).map pD)))) ah' = some (.int (stepK dn.length b).1, ah') := var_ev (by rw [get_set_ne (by decide), get_set_ne (by decide)]; exact j.w)
        simp only [sAsg, eTup, aCons, aNil, v5, v4, Option.bind_some, Option.map_some]
        rfl
      · rw [List.length_append, List.length_singleton]
        refine ⟨by simpa using w4, ?_, ?_, ?_, ?_, j.rep.rot, by rw [List.length_map]; exact j.sz, j.sm.step⟩
        · rw [get_set_ne (by decide), get_set_ne (by decide), get_set_ne (by decide), get_set_ne (by decide)]; exact j.t
        · rw [get_set_ne (by decide), get_set_ne (by decide)]; exact get_set (by simp [w4])
        · rw [get_set_ne (by decide)]; exact get_set (by rw [l8]; decide)
        · exact get_set (by simp [w4])
  obtain ⟨rfl, cs', j'⟩ := k2
  rw [List.nil_append, List.length_map, List.length_range] at j'
  exact ⟨δ', cs', j', k1⟩
end K88

set_option linter.all false
set_option maxRecDepth 100000
namespace K88
open PySem L2 MM
theorem frz_slot {i : Nat} {r : MS} {δ : DL} {ah ah2 : AH} {d d2 : D} (h : δ[i]? = some (some d)) (hf : freeze (d, ah) = some (d2, ah2)) : sFrz i r δ ah = r (δ.set i (some d2)) ah2 := by
  unfold sFrz
  rw [h]
  simp only [hf, Option.bind_some]
theorem freeze_end (ah : AH) (l : List D) : freeze (.ptr ah.length, ah ++ [.lst l]) = some (.lst l, ah ++ [.gone]) := by
  unfold freeze
  simp
theorem sg_o (b : Bool) : decide ((⟨#[sg b]⟩ : Str) = "o") = b := by cases b <;> rfl
theorem fB_row {b : Box} {y : Nat} (hy : y < b.2.1) : ((List.range b.2.1).map fun y => D.str (rowS b.1 fun x => b.2.2 x y))[y]? = some (.str (rowS b.1 fun x => b.2.2 x y)) := by simp [hy]
theorem eq_str {a b : ME} {δ : DL} {ah ah1 ah2 : AH} {x y : Str} (h1 : a δ ah = some (.str x, ah1)) (h2 : b δ ah1 = some (.str y, ah2)) : eBin gEq a b δ ah = some (.bl (decide (x = y)), ah2) := bin_ev h1 h2 rfl
theorem ix_o {m : ME} {δ : DL} {ah ah1 : AH} {b : Bool} (h : m δ ah = some (.bl b, ah1)) : eIx (eC (.str ".o")) (e1 gInt m) δ ah = some (.str ⟨#[sg b]⟩, ah1) := by
  have e : e1 gInt m δ ah = some (.int ((if b = true then 1 else 0 : Nat) : Int), ah1) := e1_ev h (by cases b <;> rfl)
  exact ix_str (z := ".o") rfl e (by decide) (by cases b <;> rfl)
theorem tup_ev {ma : MA} {δ : DL} {ah ah1 : AH} {l : List D} (h : ma δ ah = some (l, ah1)) (hl : l.length ≤ 10000) : eTup ma δ ah = some (.tup l, ah1) := by
  simp only [eTup, h, Option.bind_some]
  rw [if_pos hl]
theorem cons_ev {a : ME} {r : MA} {δ : DL} {ah ah1 ah2 : AH} {d : D} {l : List D} (h : a δ ah = some (d, ah1)) (h2 : r δ ah1 = some (l, ah2)) : aCons a r δ ah = some (d :: l, ah2) := by
  simp only [aCons, h, h2, Option.bind_some, Option.map_some]
theorem nil_ev (δ : DL) (ah : AH) : aNil δ ah = some ([], ah) := rfl
theorem ev_spun {b : Box} (hs : Small b) (m : Bool) {q : Nat} (hq : q ≤ 3) {ah : AH} (hb : Bd ah) : f__law_spun [fB b, .str (tz m q)] ah = some (fB (turnB m q b), ah) := by
  obtain ⟨s1, s2, s3, s4⟩ := id hs
  -- the first loop
  obtain ⟨δ', hj, hl⟩ := ext_loop (g := tgN 3) (k := 2) (e := eFrz (fComp (iRng1M (e1 gLen (eIx (eVar 0) (eVar 3)))) (tgN 7) (tOf (eBin gEq (eIx (eIx (eVar 0) (eVar 3)) (eVar 7)) (eC (.str "o")))) (eTup (aCons (eVar 7) (aCons (eVar 3) aNil))) [7])) (i := fun y : Nat => D.int (y : Nat))
    (F := fun y => ((List.range b.1).filter fun x => b.2.2 x y).map fun x => pD (((x : Nat) : Int), ((y : Nat) : Int))) (ah := ah) (J := fun δ => δ.length = 8 ∧ δ[0]? = some (some (fB b)) ∧ δ[1]? = some (some (.str (tz m q))) ∧ δ[2]? = some (some (.ptr ah.length))) (B := 6) (l := List.range b.2.1) (acc := [])
    (δ := [some (fB b), some (.str (tz m q)), some (.ptr ah.length), none, none, none, none, none]) ⟨rfl, rfl, rfl, rfl⟩ (fun y hy => by
      rw [List.length_map]
      refine Nat.le_trans (List.length_filter_le _ _) ?_
      rw [List.length_range]
      exact s2) (by simp; omega) fun y hy δ ⟨j1, j2, j3, j4⟩ => by
      have hy' := List.mem_range.mp hy
      refine ⟨_, rfl, ⟨by simpa using j1, by rw [get_set_ne (by decide)]; exact j2, by rw [get_set_ne (by decide)]; exact j3, by rw [get_set_ne (by decide)]; exact j4⟩, by rw [get_set_ne (by decide)]; exact j4, fun ah1 => ?_⟩
      have v0 : eVar 0 (δ.set 3 (some (.int (y : Nat)))) ah1 = some (fB b, ah1) := var_ev (by rw [get_set_ne (by decide)]; exact j2)
      have v3 : eVar 3 (δ.set 3 (some (.int (y : Nat)))) ah1 = some (.int (y : Nat), ah1) := var_ev (get_set (by omega))
      have ln := len_str (m := eIx (eVar 0) (eVar 3)) (ix_tup v0 v3 (fB_row hy')) (by rw [rowS_len]; omega)
      rw [rowS_len] at ln
      refine frz_ev ((comp_ev (rng1 ln (by omega)) (by simp; omega)).trans ?_)
      refine compGo_filter (i := fun x : Nat => D.int (x : Nat)) (f := fun x => pD (((x : Nat) : Int), ((y : Nat) : Int))) fun x hx => ?_
      have hx' := List.mem_range.mp hx
      have L : (wipeD (δ.set 3 (some (.int (y : Nat)))) [7]).length = 8 := by rw [wipe_len]; simpa using j1
      have v0' : eVar 0 ((wipeD (δ.set 3 (some (.int (y : Nat)))) [7]).set 7 (some (.int (x : Nat)))) ah1 = some (fB b, ah1) := var_ev (by rw [get_set_ne (by decide), wipe_get_ne (by decide), get_set_ne (by decide)]; exact j2)
      have v3' : eVar 3 ((wipeD (δ.set 3 (some (.int (y : Nat)))) [7]).set 7 (some (.int (x : Nat)))) ah1 = some (.int (y : Nat), ah1) := var_ev (by rw [get_set_ne (by decide), wipe_get_ne (by decide)]; exact get_set (by omega))
      have v7' : eVar 7 ((wipeD (δ.set 3 (some (.int (y : Nat)))) [7]).set 7 (some (.int (x : Nat)))) ah1 = some (.int (x : Nat), ah1) := var_ev (get_set (by rw [L]; decide))
      have t1 := tof_ev (eq_str (b := eC (.str "o")) (ix_str (ix_tup v0' v3' (fB_row hy')) v7' (by rw [rowS_len]; omega) (rowS_get hx')) rfl)
      rw [sg_o] at t1
      exact ⟨_, rfl, t1, fun _ => tup_ev (cons_ev v7' (cons_ev v3' rfl)) (by simp)⟩
  obtain ⟨j1, j2, j3, j4⟩ := hj
  have ecs : ((List.range b.2.1).flatMap fun y => ((List.range b.1).filter fun x => b.2.2 x y).map fun x => pD (((x : Nat) : Int), ((y : Nat) : Int))) = (cells0 b).map pD := by
    unfold cells0
    rw [List.map_flatMap]
    congr 1
    funext y
    rw [List.map_map]
    rfl
  rw [List.nil_append, ecs] at hl
  -- wide, high
  have L1 : (δ'.set 2 (some (.lst ((cells0 b).map pD)))).length = 8 := by simpa using j1
  have jst0 : Jst (.str (tz m q)) (((δ'.set 2 (some (.lst ((cells0 b).map pD)))).set 4 (some (.int b.1))).set 5 (some (.int b.2.1))) b (cells0 b) := by
    refine ⟨by simpa using j1, ?_, ?_, ?_, ?_, cells0_rep b, cells0_len hs, hs⟩
    · rw [get_set_ne (by decide), get_set_ne (by decide), get_set_ne (by decide)]; exact j3
    · rw [get_set_ne (by decide), get_set_ne (by decide)]; exact get_set (by omega)
    · rw [get_set_ne (by decide)]; exact get_set (by rw [L1]; decide)
    · exact get_set (by simp [j1])
  have wh : sAsg (tgT (tgCons (tgN 4) (tgCons (tgN 5) tgNil))) (eTup (aCons (e1 gLen (eIx (eVar 0) (eC (.int 0)))) (aCons (e1 gLen (eVar 0)) aNil))) (δ'.set 2 (some (.lst ((cells0 b).map pD)))) (ah ++ [.gone]) = some (.nx (((δ'.set 2 (some (.lst ((cells0 b).map pD)))).set 4 (some (.int b.1))).set 5 (some (.int b.2.1))), ah ++ [.gone]) := by
    have v0 : eVar 0 (δ'.set 2 (some (.lst ((cells0 b).map pD)))) (ah ++ [.gone]) = some (fB b, ah ++ [.gone]) := var_ev (by rw [get_set_ne (by decide)]; exact j2)
    have a1 := len_str (m := eIx (eVar 0) (eC (.int 0))) (ix_tup (i := 0) v0 rfl (fB_row (by omega))) (by rw [rowS_len]; omega)
    rw [rowS_len] at a1
    have a2 := len_tup v0
    rw [List.length_map, List.length_range] at a2
    have tt := tup_ev (cons_ev a1 (cons_ev a2 (nil_ev _ _))) (by simp)
    unfold sAsg
    rw [tt]
    rfl
  -- exchanged
  have ex : ∃ δ2 cs2, Jst (.str (tz m q)) δ2 (if m = true then (b.1, b.2.1, mirC b.1 b.2.2) else b) cs2 ∧ sIf (tOf (eBin gEq (eIx (eVar 1) (eC (.int 0))) (eC (.str "m")))) (sAsg (tgN 2) (eFrz (fComp (iAny (eVar 2)) (tgT (tgCons (tgN 7) (tgCons (tgN 3) tgNil))) tYesM (eTup (aCons (eBin gSub (eBin gSub (eVar 4) (eC (.int 1))) (eVar 7)) (aCons (eVar 3) aNil))) [7, 3]))) sNil (((δ'.set 2 (some (.lst ((cells0 b).map pD)))).set 4 (some (.int b.1))).set 5 (some (.int b.2.1))) (ah ++ [.gone]) = some (.nx δ2, ah ++ [.gone]) := by
    generalize (((δ'.set 2 (some (.lst ((cells0 b).map pD)))).set 4 (some (.int b.1))).set 5 (some (.int b.2.1))) = δ3 at jst0
    have tst := tof_ev (eq_str (b := eC (.str "m")) (ix_str (z := tz m q) (i := 0) (b := eC (.int 0)) (var_ev (ah := ah ++ [.gone]) jst0.t) rfl (by show (2 : Nat) ≤ 100000; decide) rfl) rfl)
    cases m with
    | false =>
      exact ⟨δ3, _, jst0, (if_f tst).trans rfl⟩
    | true =>
      have c1 := pt_comp (cs := cells0 b) (F := fun p => ((b.1 : Int) - 1 - p.1, p.2)) (δ := δ3) (ah := ah ++ [.gone]) (a := eBin gSub (eBin gSub (eVar 4) (eC (.int 1))) (eVar 7)) (b := eVar 3) (by have := jst0.sz; omega) jst0.ls jst0.len fun p δ1 e => by
        subst e
        have l8 : (wipeD δ3 [7, 3]).length = 8 := by rw [wipe_len]; exact jst0.len
        refine ⟨sub_ev (sub_ev (var_ev (d := .int b.1) ?_) rfl) (var_ev ?_), var_ev ?_⟩
        · rw [get_set_ne (by decide), get_set_ne (by decide), wipe_get_ne (by decide)]
          exact jst0.w
        · rw [get_set_ne (by decide)]
          exact get_set (by rw [l8]; decide)
        · exact get_set (by simp [l8])
      have jm : Jst (.str (tz true q)) (δ3.set 2 (some (.lst (((cells0 b).map fun p => ((b.1 : Int) - 1 - p.1, p.2)).map pD)))) (b.1, b.2.1, mirC b.1 b.2.2) ((cells0 b).map fun p => ((b.1 : Int) - 1 - p.1, p.2)) := by
        refine ⟨?_, ?_, ?_, ?_, ?_, jst0.rep.mir, by rw [List.length_map]; exact jst0.sz, hs⟩
        · simpa using jst0.len
        · rw [get_set_ne (by decide)]; exact jst0.t
        · exact get_set (by rw [jst0.len]; decide)
        · rw [get_set_ne (by decide)]; exact jst0.w
        · rw [get_set_ne (by decide)]; exact jst0.h
      exact ⟨_, _, jm, (if_t tst).trans (asg_ev c1)⟩
  obtain ⟨δ2, cs2, jst2, ex⟩ := ex
  obtain ⟨δ4, cs4, jst4, lp⟩ := spun_loop (ah := ah ++ [.gone]) (q := q) jst2
  have hq1 : eIx (eVar 1) (eC (.int 1)) δ2 (ah ++ [.gone]) = some (.str ⟨#[48 + q]⟩, ah ++ [.gone]) := ix_str (z := tz m q) (i := 1) (var_ev jst2.t) rfl (by show (2 : Nat) ≤ 100000; decide) rfl
  have rq : iRng1M (eSIndex (eC (.str "0123")) (eIx (eVar 1) (eC (.int 1)))) δ2 (ah ++ [.gone]) = some ((List.range q).map fun i => .int (i : Nat), ah ++ [.gone]) := rng1 (bin_ev rfl hq1 (idx0123 hq _)) (by omega)
  -- the face
  have fin : sRet (e1 gTuple (eFrz (fComp (iRng1M (eVar 5)) (tgN 3) tYesM (eJoin (eC (.str "")) (eFrz (fComp (iRng1M (eVar 4)) (tgN 7) tYesM (eIx (eC (.str ".o")) (e1 gInt (eBin gIn (eTup (aCons (eVar 7) (aCons (eVar 3) aNil))) (eVar 2)))) [7]))) [3]))) δ4 (ah ++ [.gone]) = some (.rt (fB (turnB m q b)), ah ++ [.gone]) := by
    have hb4 : stepK q (if m = true then (b.1, b.2.1, mirC b.1 b.2.2) else b) = turnB m q b := rfl
    rw [hb4] at jst4
    generalize turnB m q b = b4 at jst4
    obtain ⟨q1, q2, q3, q4⟩ := jst4.sm
    have l8 : (wipeD δ4 [3]).length = 8 := by rw [wipe_len]; exact jst4.len
    refine ret_ev (e1_ev (frz_ev ((comp_ev (rng1 (var_ev jst4.h) (by omega)) (by simp; omega)).trans (compGo_map (i := fun y : Nat => D.int (y : Nat)) (f := fun y => D.str (rowS b4.1 fun x => b4.2.2 x y)) fun y hy => ?_))) (tup_lst _ _))
    have hy' := List.mem_range.mp hy
    refine ⟨_, rfl, rfl, (join_ev (f := fun x => sg (b4.2.2 x y)) (l := List.range b4.1) rfl (frz_ev ?_) (by simp; omega)).trans rfl⟩
    have l8' : (wipeD ((wipeD δ4 [3]).set 3 (some (.int (y : Nat)))) [7]).length = 8 := by rw [wipe_len]; simpa using l8
    refine (comp_ev (rng1 (n := b4.1) (var_ev (by rw [get_set_ne (by decide), wipe_get_ne (by decide)]; exact jst4.w)) (by omega)) (by simp; omega)).trans (compGo_map (i := fun x : Nat => D.int (x : Nat)) fun x hx => ?_)
    have hx' := List.mem_range.mp hx
    refine ⟨_, rfl, rfl, ix_o ?_⟩
    have v7 : eVar 7 ((wipeD ((wipeD δ4 [3]).set 3 (some (.int (y : Nat)))) [7]).set 7 (some (.int (x : Nat)))) (ah ++ [.gone]) = some (.int (x : Nat), ah ++ [.gone]) := var_ev (get_set (by rw [l8']; decide))
    have v3 : eVar 3 ((wipeD ((wipeD δ4 [3]).set 3 (some (.int (y : Nat)))) [7]).set 7 (some (.int (x : Nat)))) (ah ++ [.gone]) = some (.int (y : Nat), ah ++ [.gone]) := var_ev (by rw [get_set_ne (by decide), wipe_get_ne (by decide)]; exact get_set (by rw [l8]; decide))
    have v2 : eVar 2 ((wipeD ((wipeD δ4 [3]).set 3 (some (.int (y : Nat)))) [7]).set 7 (some (.int (x : Nat)))) (ah ++ [.gone]) = some (.lst (cs4.map pD), ah ++ [.gone]) := var_ev (by rw [get_set_ne (by decide), wipe_get_ne (by decide), get_set_ne (by decide), wipe_get_ne (by decide)]; exact jst4.ls)
    have gi := gIn_pb (n := 1) (ah := ah ++ [.gone]) (x := pD (((x : Nat) : Int), ((y : Nat) : Int))) (l := cs4.map pD) (by decide) rfl (pD_all cs4) (fun z e => by cases e) (fun l e => by cases e)
    rw [jst4.rep.mem hx' hy'] at gi
    exact bin_ev (tup_ev (cons_ev v7 (cons_ev v3 rfl)) (by simp)) v2 gi
  have len_f : e1 gLen (eVar 0) [some (fB b), some (.str (tz m q)), some (.ptr ah.length), none, none, none, none, none] (ah ++ [.lst []]) = some (.int b.2.1, ah ++ [.lst []]) := by
    have := len_tup (m := eVar 0) (δ := [some (fB b), some (.str (tz m q)), some (.ptr ah.length), none, none, none, none, none]) (ah := ah ++ [.lst []]) rfl
    rw [List.length_map, List.length_range] at this
    exact this
  have whole : s__law_spun [some (fB b), some (.str (tz m q)), none, none, none, none, none, none] ah = some (.rt (fB (turnB m q b)), ah ++ [.gone]) := by
    unfold s__law_spun
    refine (seq_nx (asg_ev (own_ev (l := []) (ah1 := ah) rfl))).trans ?_
    refine (seq_nx ((for_ev (rng1 len_f (by omega))).trans hl)).trans ?_
    refine (frz_slot j4 (freeze_end _ _)).trans ?_
    exact (seq_nx wh).trans ((seq_nx ex).trans ((seq_nx ((for_ev rq).trans lp)).trans fin))
  exact (fn_rt rfl whole).trans (congrArg some (trim_app (d := fB (turnB m q b)) (fD_bd _ _ _ _) hb))
def xorB (b : Box) (e : Cell) : Box := (b.1, b.2.1, xorC b.2.2 e)
theorem str_ne (a b : Bool) : (!decide ((⟨#[sg a]⟩ : Str) = ⟨#[sg b]⟩)) = (a != b) := by cases a <;> cases b <;> rfl
theorem ne_str {a b : ME} {δ : DL} {ah ah1 ah2 : AH} {x y : Str} (h1 : a δ ah = some (.str x, ah1)) (h2 : b δ ah1 = some (.str y, ah2)) : eBin gNe a b δ ah = some (.bl (!decide (x = y)), ah2) := bin_ev h1 h2 rfl
theorem ev_over {w h : Nat} {c e : Cell} (h2 : w ≤ 6) (h4 : h ≤ 6) {ah : AH} (hb : Bd ah) : f__law_over [fD w h c, fD w h e] ah = some (fD w h (xorC c e), ah) := by
  have row : ∀ (c : Cell) (y : Nat), y < h → ((List.range h).map fun y => D.str (rowS w fun x => c x y))[y]? = some (.str (rowS w fun x => c x y)) := fun c y hy => by simp [hy]
  obtain ⟨δ', hj, hl⟩ := app_loop (g := tgN 3) (k := 2) (e := eJoin (eC (.str "")) (eFrz (fComp (iRng1M (e1 gLen (eIx (eVar 0) (eVar 3)))) (tgN 4) tYesM (eIx (eC (.str ".o")) (e1 gInt (eBin gNe (eIx (eIx (eVar 0) (eVar 3)) (eVar 4)) (eIx (eIx (eVar 1) (eVar 3)) (eVar 4))))) [4]))) (i := fun y : Nat => D.int (y : Nat)) (F := fun y => .str (rowS w fun x => xorC c e x y)) (ah := ah)
    (J := fun δ => δ.length = 5 ∧ δ[0]? = some (some (fD w h c)) ∧ δ[1]? = some (some (fD w h e)) ∧ δ[2]? = some (some (.ptr ah.length))) (l := List.range h) (acc := []) (δ := [some (fD w h c), some (fD w h e), some (.ptr ah.length), none, none]) ⟨rfl, rfl, rfl, rfl⟩ (by simp; omega) fun y hy δ ⟨j1, j2, j3, j4⟩ => by
      have hy' := List.mem_range.mp hy
      refine ⟨_, rfl, ⟨by simpa using j1, by rw [get_set_ne (by decide)]; exact j2, by rw [get_set_ne (by decide)]; exact j3, by rw [get_set_ne (by decide)]; exact j4⟩, by rw [get_set_ne (by decide)]; exact j4, fun ah1 => ?_⟩
      have v0 : eVar 0 (δ.set 3 (some (.int (y : Nat)))) ah1 = some (fD w h c, ah1) := var_ev (by rw [get_set_ne (by decide)]; exact j2)
      have v3 : eVar 3 (δ.set 3 (some (.int (y : Nat)))) ah1 = some (.int (y : Nat), ah1) := var_ev (get_set (by omega))
      have ln := len_str (m := eIx (eVar 0) (eVar 3)) (ix_tup v0 v3 (row c y hy')) (by rw [rowS_len]; omega)
      rw [rowS_len] at ln
      refine (join_ev (f := fun x => sg (xorC c e x y)) (l := List.range w) rfl (frz_ev ((comp_ev (rng1 ln (by omega)) (by simp; omega)).trans (compGo_map (i := fun x : Nat => D.int (x : Nat)) fun x hx => ?_))) (by simp; omega)).trans rfl
      have hx' := List.mem_range.mp hx
      have L : (wipeD (δ.set 3 (some (.int (y : Nat)))) [4]).length = 5 := by rw [wipe_len]; simpa using j1
      have w0 : eVar 0 ((wipeD (δ.set 3 (some (.int (y : Nat)))) [4]).set 4 (some (.int (x : Nat)))) ah1 = some (fD w h c, ah1) := var_ev (by rw [get_set_ne (by decide), wipe_get_ne (by decide), get_set_ne (by decide)]; exact j2)
      have w1 : eVar 1 ((wipeD (δ.set 3 (some (.int (y : Nat)))) [4]).set 4 (some (.int (x : Nat)))) ah1 = some (fD w h e, ah1) := var_ev (by rw [get_set_ne (by decide), wipe_get_ne (by decide), get_set_ne (by decide)]; exact j3)
      have w3 : eVar 3 ((wipeD (δ.set 3 (some (.int (y : Nat)))) [4]).set 4 (some (.int (x : Nat)))) ah1 = some (.int (y : Nat), ah1) := var_ev (by rw [get_set_ne (by decide), wipe_get_ne (by decide)]; exact get_set (by omega))
      have w4 : eVar 4 ((wipeD (δ.set 3 (some (.int (y : Nat)))) [4]).set 4 (some (.int (x : Nat)))) ah1 = some (.int (x : Nat), ah1) := var_ev (get_set (by rw [L]; decide))
      have ne := ne_str (ix_str (ix_tup w0 w3 (row c y hy')) w4 (by rw [rowS_len]; omega) (rowS_get hx')) (ix_str (ix_tup w1 w3 (row e y hy')) w4 (by rw [rowS_len]; omega) (rowS_get hx'))
      rw [str_ne] at ne
      exact ⟨_, rfl, rfl, ix_o ne⟩
  have len_f : e1 gLen (eVar 0) [some (fD w h c), some (fD w h e), some (.ptr ah.length), none, none] (ah ++ [.lst []]) = some (.int h, ah ++ [.lst []]) := by
    have := len_tup (m := eVar 0) (δ := [some (fD w h c), some (fD w h e), some (.ptr ah.length), none, none]) (ah := ah ++ [.lst []]) rfl
    rw [List.length_map, List.length_range] at this
    exact this
  have whole : s__law_over [some (fD w h c), some (fD w h e), none, none, none] ah = some (.rt (fD w h (xorC c e)), ah ++ [.lst ((List.range h).map fun y => .str (rowS w fun x => xorC c e x y))]) := by
    unfold s__law_over
    refine (seq_nx (asg_ev (own_ev (l := []) (ah1 := ah) rfl))).trans ?_
    exact (seq_nx ((for_ev (rng1 len_f (by omega))).trans hl)).trans (ret_ev (tup_ptr hj.2.2.2))
  exact (fn_rt rfl whole).trans (congrArg some (trim_app (d := fD w h (xorC c e)) (fD_bd _ _ _ _) hb))
/-! ### the program's turned faces -/
theorem ev_exchanges (m : Bool) (q : Nat) (ah : AH) : f_exchanges [.str (tz m q)] ah = some (.bl m, ah) := by
  have hs : s_exchanges [some (.str (tz m q))] ah = some (.rt (.bl m), ah) := by
    have e := eq_str (b := eC (.str "m")) (ix_str (z := tz m q) (i := 0) (m := eVar 0) (b := eC (.int 0)) (δ := [some (.str (tz m q))]) (ah := ah) rfl rfl (by show (2 : Nat) ≤ 100000; decide) rfl) rfl
    unfold s_exchanges
    refine (ret_ev e).trans ?_
    cases m <;> rfl
  exact (fn_rt rfl hs).trans (by rw [trim_self])
theorem ev_quarters (m : Bool) {q : Nat} (hq : q ≤ 3) (ah : AH) : f_quarters [.str (tz m q)] ah = some (.int (q : Nat), ah) := by
  have e : eTIndex l_TURNINGS (eVar 0) [some (.str (tz m q))] ah = some (.int ((if m = true then 4 + q else q : Nat) : Int), ah) := by
    have i : idxS (tz m q) l_TURNINGS = some (if m = true then 4 + q else q) := by
      cases m <;> (match q, hq with | 0, _ => decide +kernel | 1, _ => decide +kernel | 2, _ => decide +kernel | 3, _ => decide +kernel)
    show (Option.map _ (idxS (tz m q) l_TURNINGS)) = _
    rw [i]
    rfl
  have hs : s_quarters [some (.str (tz m q))] ah = some (.rt (.int (q : Nat)), ah) := by
    unfold s_quarters
    refine ret_ev (bin_ev e rfl ?_)
    show gMod ah _ (.int 4) = _
    simp only [gIc]
    rw [if_pos (by decide)]
    congr 2
    cases m <;> (simp; omega)
  exact (fn_rt rfl hs).trans (by rw [trim_self])
theorem ev_turned {b : Box} (hs : Small b) (m : Bool) {q : Nat} (hq : q ≤ 3) (ah : AH) : f_turned [fB b, .str (tz m q)] ah = some (fB (turnB m q b), ah) := by
  obtain ⟨s1, s2, s3, s4⟩ := id hs
  have first : sIf (tOf (eCall f_exchanges (aCons (eVar 1) aNil))) (sAsg (tgN 0) (eCall f_mirrored (aCons (eVar 0) aNil))) sNil [some (fB b), some (.str (tz m q)), none] ah = some (.nx [some (fB (if m = true then (b.1, b.2.1, mirC b.1 b.2.2) else b)), some (.str (tz m q)), none], ah) := by
    have t := tof_ev ((call_ev (ma := aCons (eVar 1) aNil) (δ := [some (fB b), some (.str (tz m q)), none]) (ah := ah) (ds := [.str (tz m q)]) rfl).trans (ev_exchanges m q ah))
    cases m with
    | false => exact (if_f t).trans rfl
    | true => exact (if_t t).trans (asg_ev ((call_ev (ma := aCons (eVar 0) aNil) (ds := [fB b]) rfl).trans (ev_mirrored s2 s4 ah)))
  have loop : ∀ (b : Box), Small b → ∃ x, forGo (tgN 2) (sAsg (tgN 0) (eCall f_quarter_turned (aCons (eVar 0) aNil))) ((List.range q).map fun i => .int (i : Nat)) [some (fB b), some (.str (tz m q)), none] ah = some (.nx [some (fB (stepK q b)), some (.str (tz m q)), x], ah) := fun b hs => by
    obtain ⟨δ', ah', k1, k2⟩ := forGo_inv (g := tgN 2) (b := sAsg (tgN 0) (eCall f_quarter_turned (aCons (eVar 0) aNil))) (I := fun dn δ ah' => ah' = ah ∧ ∃ x, δ = [some (fB (stepK dn.length b)), some (.str (tz m q)), x]) (l := (List.range q).map fun i => .int (i : Nat)) (done := []) (δ := [some (fB b), some (.str (tz m q)), none]) ⟨rfl, none, rfl⟩ fun dn d r δ ah' _ ⟨e, x, ed⟩ => by
      subst e ed
      obtain ⟨_, z2, z3, z4⟩ := hs.stepK dn.length
      refine ⟨_, _, _, rfl, asg_ev ((call_ev (ma := aCons (eVar 0) aNil) (ds := [fB (stepK dn.length b)]) rfl).trans (ev_quarter_turned z2 z3 z4 ah')), rfl, some d, ?_⟩
      rw [List.length_append, List.length_singleton]
      rfl
    obtain ⟨rfl, x, rfl⟩ := k2
    rw [List.nil_append, List.length_map, List.length_range] at k1
    exact ⟨x, k1⟩
  obtain ⟨x, lp⟩ := loop (if m = true then (b.1, b.2.1, mirC b.1 b.2.2) else b) (by cases m <;> exact hs)
  have whole : s_turned [some (fB b), some (.str (tz m q)), none] ah = some (.rt (fB (turnB m q b)), ah) := by
    unfold s_turned
    refine (seq_nx first).trans ((seq_nx ((for_ev (rng1 ((call_ev (ma := aCons (eVar 1) aNil) (ds := [.str (tz m q)]) rfl).trans (ev_quarters m hq ah)) (by omega))).trans lp)).trans ?_)
    exact ret_ev rfl
  exact (fn_rt rfl whole).trans (by rw [trim_self])
end K88

set_option linter.all false
set_option maxRecDepth 100000
namespace K88
open PySem L2 MM
/-! ### dicts by names -/
def kvs (M : List Str) (F : Str → D) : List (Key × D) := M.map fun n => (.inr n, F n)
theorem dLook_kvs {M : List Str} {F : Str → D} {a : Str} (h : a ∈ M) : dLook (kvs M F) (.inr a) = some (F a) := by
  induction M with
  | nil => cases h
  | cons m r ih =>
    unfold dLook kvs
    rw [List.map_cons, List.find?_cons]
    by_cases e : m = a
    · subst e
      simp
    · have : decide ((Sum.inr m : Key) = Sum.inr a) = false := decide_eq_false (fun q => e (Sum.inr.inj q))
      simp only [this]
      exact ih ((List.mem_cons.mp h).resolve_left (Ne.symm e))
theorem dLook_no {M : List Str} {F : Str → D} {a : Str} (h : a ∉ M) : dLook (kvs M F) (.inr a) = none := by
  induction M with
  | nil => rfl
  | cons m r ih =>
    unfold dLook kvs
    rw [List.map_cons, List.find?_cons]
    have : decide ((Sum.inr m : Key) = Sum.inr a) = false := decide_eq_false (fun q => h (by rw [Sum.inr.inj q]; simp))
    simp only [this]
    exact ih fun hm => h (by simp [hm])
theorem kvs_any {M : List Str} {F : Str → D} {a : Str} : ((kvs M F).any fun kv => decide (kv.1 = .inr a)) = decide (a ∈ M) := by
  induction M with
  | nil => rfl
  | cons m r ih =>
    show (decide ((Sum.inr m : Key) = Sum.inr a) || (kvs r F).any _) = _
    rw [ih, Bool.eq_iff_iff, Bool.or_eq_true, decide_eq_true_eq, decide_eq_true_eq, decide_eq_true_eq, List.mem_cons]
    exact or_congr ⟨fun q => (Sum.inr.inj q).symm, fun q => by rw [q]⟩ Iff.rfl
theorem putD_kvs {M : List Str} {F : Str → D} {a : Str} {d : D} (h : a ∈ M) : putD (kvs M F) (.inr a) d = kvs M fun n => if n = a then d else F n := by
  unfold putD
  rw [if_pos (by rw [kvs_any]; exact decide_eq_true h)]
  unfold kvs
  rw [List.map_map]
  refine List.map_congr_left fun n _ => ?_
  show (if (Sum.inr n : Key) = Sum.inr a then ((Sum.inr n : Key), d) else (Sum.inr n, F n)) = (Sum.inr n, if n = a then d else F n)
  by_cases e : n = a
  · rw [if_pos (by rw [e]), if_pos e]
  · rw [if_neg (fun q => e (Sum.inr.inj q)), if_neg e]
theorem putD_new {M : List Str} {F : Str → D} {a : Str} (h : a ∉ M) : putD (kvs M F) (.inr a) (F a) = kvs (M ++ [a]) F := by
  unfold putD
  rw [if_neg (by rw [kvs_any]; simpa using h)]
  unfold kvs
  rw [List.map_append]
  rfl
theorem ix_dic {m b : ME} {δ : DL} {ah ah1 ah2 : AH} {M : List Str} {F : Str → D} {a : Str} (h : m δ ah = some (.dic (kvs M F), ah1)) (hb : b δ ah1 = some (.str a, ah2)) (ha : a ∈ M) : eIx m b δ ah = some (F a, ah2) := by
  refine bin_ev h hb ?_
  show ((keyOf (.str a)).bind fun k => dLook (kvs M F) k) = _
  show dLook (kvs M F) (.inr a) = _
  exact dLook_kvs ha
theorem keys_kvs (M : List Str) (F : Str → D) : ((kvs M F).map fun kv => keyD kv.1) = M.map D.str := by
  unfold kvs
  rw [List.map_map]
  rfl
theorem len_dic {m : ME} {δ : DL} {ah ah1 : AH} {l : List (Key × D)} (h : m δ ah = some (.dic l, ah1)) : e1 gLen m δ ah = some (.int l.length, ah1) := e1_ev h rfl
/-- names of stamps -/
structure Nms (M : List Str) : Prop where
  ok : ∀ n ∈ M, nameB n = true
  nd : M.Nodup
  lo : 1 ≤ M.length
  hi : M.length ≤ 6
theorem nil_t {t : MT} {a : MS} {δ : DL} {ah : AH} (h : t δ ah = some (false, ah)) : sIf t a sNil δ ah = some (.nx δ, ah) := (if_f h).trans rfl
theorem ev_are_faces {M : List Str} (hM : Nms M) {w h : Nat} {st : Str → Cell} (h1 : 1 ≤ w) (h2 : w ≤ 6) (h3 : 1 ≤ h) (h4 : h ≤ 6) (ah : AH) : f_are_faces [.dic (kvs M fun n => fD w h (st n))] ah = some (.bl true, ah) := by
  have hl : (kvs M fun n => fD w h (st n)).length = M.length := by simp [kvs]
  have t0 : tOrM (tNotM (tOf (eIsB "dict" (eVar 0)))) (tNotM (tOf (eChain gLe gLe (eC (.int 1)) (e1 gLen (eVar 0)) (eC k_MOST_STAMPS)))) [some (.dic (kvs M fun n => fD w h (st n))), none, none, none] ah = some (false, ah) := by
    rw [tor_f (ah1 := ah) rfl]
    have := hM.lo
    have := hM.hi
    exact tnot_ev (tof_ev (chain_t rfl (len_dic rfl) rfl (by rw [hl]; omega) (by rw [hl]; omega)))
  have it : iAny (eVar 0) [some (.dic (kvs M fun n => fD w h (st n))), none, none, none] ah = some (M.map D.str, ah) := by
    rw [← keys_kvs M fun n => fD w h (st n)]
    exact iAny_dic rfl
  obtain ⟨δ', ah', lp, rfl, x, rfl⟩ := forGo_inv (g := tgN 1) (b := sIf (tOrM (tNotM (tOf (eCall f_is_name (aCons (eVar 1) aNil)))) (tNotM (tOf (eCall f_is_face (aCons (eIx (eVar 0) (eVar 1)) aNil))))) (sRet (eC (.bl false))) sNil) (I := fun _ δ ah' => ah' = ah ∧ ∃ x, δ = [some (.dic (kvs M fun n => fD w h (st n))), x, none, none]) (l := M.map D.str) (done := []) (δ := [some (.dic (kvs M fun n => fD w h (st n))), none, none, none]) ⟨rfl, none, rfl⟩
    fun dn d r δ ah' es ⟨e, x, ed⟩ => by
      subst e ed
      have hd : d ∈ M.map D.str := by rw [List.nil_append] at es; rw [es]; simp
      obtain ⟨n, hn, rfl⟩ := List.mem_map.mp hd
      refine ⟨_, _, _, rfl, nil_t ?_, rfl, some (.str n), rfl⟩
      rw [tor_f (ah1 := ah') (tnot_ev (tof_ev ((call_ev (ma := aCons (eVar 1) aNil) (ds := [.str n]) rfl).trans (ev_is_name (hM.ok n hn) _))))]
      exact tnot_ev (tof_ev ((call_ev (cons_ev (ix_dic (F := fun n => fD w h (st n)) (a := n) rfl rfl hn) (nil_ev _ _))).trans (ev_is_face h1 h2 h3 h4 _)))
  have bx : eFrz (fComp (iAny (eVar 0)) (tgN 1) tYesM (eCall f_box_of (aCons (eIx (eVar 0) (eVar 1)) aNil)) [1]) [some (.dic (kvs M fun n => fD w h (st n))), x, none, none] ah' = some (.lst (M.map fun _ => .tup [.int w, .int h]), ah') := by
    have it2 : iAny (eVar 0) [some (.dic (kvs M fun n => fD w h (st n))), x, none, none] ah' = some (M.map D.str, ah') := by
      rw [← keys_kvs M fun n => fD w h (st n)]
      exact iAny_dic rfl
    refine frz_ev ((comp_ev it2 (by have := hM.hi; rw [List.length_map]; omega)).trans (compGo_map (i := D.str) fun n hn => ⟨_, rfl, rfl, ?_⟩))
    exact (call_ev (cons_ev (ix_dic (F := fun n => fD w h (st n)) (a := n) rfl rfl hn) (nil_ev _ _))).trans (ev_box_of h2 h3 _)
  have whole : s_are_faces [some (.dic (kvs M fun n => fD w h (st n))), none, none, none] ah' = some (.rt (.bl true), ah') := by
    unfold s_are_faces
    refine (seq_nx (nil_t t0)).trans ((seq_nx ((for_ev it).trans lp)).trans ((seq_nx (asg_ev bx)).trans (ret_ev ?_)))
    refine e1_ev (frz_ev ((comp_ev (iAny_lst rfl) (by have := hM.hi; rw [List.length_map]; omega)).trans (compGo_map (i := fun _ : Str => D.tup [.int w, .int h]) (f := fun _ => .bl true) fun n hn => ⟨_, rfl, rfl, ?_⟩))) ?_
    · have hlen : 0 < M.length := by have := hM.lo; omega
      have i0 : eIx (eVar 2) (eC (.int 0)) [some (.dic (kvs M fun n => fD w h (st n))), x, some (.lst (M.map fun _ => .tup [.int w, .int h])), some (.tup [.int w, .int h])] ah' = some (.tup [.int w, .int h], ah') := by
        refine bin_ev rfl rfl ?_
        show (asL ah' (.lst (M.map fun _ => D.tup [.int w, .int h]))).bind (fun l => atI l 0) = _
        show atI (M.map fun _ => D.tup [.int w, .int h]) 0 = _
        simp [atI, ixN, hlen]
      refine bin_ev rfl i0 ?_
      rw [gEq, dEq_pb (n := 1) (by decide) rfl rfl]
      simp
    · have := all_lst ah' (M.map fun _ => true)
      rw [List.map_map] at this
      refine Eq.trans this ?_
      rw [List.all_map]
      congr 2
      simp
  exact (fn_rt rfl whole).trans (by rw [trim_self])
end K88

set_option linter.all false
set_option maxRecDepth 100000
namespace MM
open PySem L2
mutual
theorem D.bd_mono {n m : Nat} (h : n ≤ m) : ∀ d : D, D.bd n d = true → D.bd m d = true
  | .non, _ => by simp [D.bd]
  | .bl _, _ => by simp [D.bd]
  | .int _, _ => by simp [D.bd]
  | .str _, _ => by simp [D.bd]
  | .tup l, e => by rw [D.bd] at e ⊢; exact D.bds_mono h l e
  | .lst l, e => by rw [D.bd] at e ⊢; exact D.bds_mono h l e
  | .scr l, e => by rw [D.bd] at e ⊢; exact D.bds_mono h l e
  | .dic l, e => by rw [D.bd] at e ⊢; exact D.bdK_mono h l e
  | .dct l, e => by rw [D.bd] at e ⊢; exact D.bdT_mono h l e
  | .ins _ f, e => by rw [D.bd] at e ⊢; exact D.bdF_mono h f e
  | .ptr k, e => by
    rw [D.bd] at e ⊢
    exact decide_eq_true (Nat.lt_of_lt_of_le (of_decide_eq_true e) h)
theorem D.bds_mono {n m : Nat} (h : n ≤ m) : ∀ l : List D, D.bds n l = true → D.bds m l = true
  | [], _ => by simp [D.bds]
  | d :: r, e => by
    rw [D.bds, Bool.and_eq_true] at e ⊢
    exact ⟨D.bd_mono h d e.1, D.bds_mono h r e.2⟩
theorem D.bdK_mono {n m : Nat} (h : n ≤ m) : ∀ l : List (Key × D), D.bdK n l = true → D.bdK m l = true
  | [], _ => by simp [D.bdK]
  | (_, d) :: r, e => by
    rw [D.bdK, Bool.and_eq_true] at e ⊢
    exact ⟨D.bd_mono h d e.1, D.bdK_mono h r e.2⟩
theorem D.bdT_mono {n m : Nat} (h : n ≤ m) : ∀ l : List (List Key × D), D.bdT n l = true → D.bdT m l = true
  | [], _ => by simp [D.bdT]
  | (_, d) :: r, e => by
    rw [D.bdT, Bool.and_eq_true] at e ⊢
    exact ⟨D.bd_mono h d e.1, D.bdT_mono h r e.2⟩
theorem D.bdF_mono {n m : Nat} (h : n ≤ m) : ∀ l : List (Str × D), D.bdF n l = true → D.bdF m l = true
  | [], _ => by simp [D.bdF]
  | (_, d) :: r, e => by
    rw [D.bdF, Bool.and_eq_true] at e ⊢
    exact ⟨D.bd_mono h d e.1, D.bdF_mono h r e.2⟩
end
theorem AO.bd_mono {n m : Nat} (h : n ≤ m) : ∀ o : AO, AO.bd n o = true → AO.bd m o = true
  | .gone, _ => rfl
  | .lst l, e => D.bds_mono h l e
  | .dic l, e => D.bdK_mono h l e
  | .dct l, e => D.bdT_mono h l e
  | .ins _ f, e => D.bdF_mono h f e
theorem Bd.push {ah : AH} {o : AO} (h : Bd ah) (ho : AO.bd (ah.length + 1) o = true) : Bd (ah ++ [o]) := fun u hu => by
  rw [List.length_append, List.length_singleton]
  rcases List.mem_append.mp hu with hu | hu
  · exact AO.bd_mono (Nat.le_succ _) u (h u hu)
  · rw [List.mem_singleton.mp hu]
    exact ho
theorem Bd.set {ah : AH} {o : AO} {n : Nat} (h : Bd ah) (ho : AO.bd ah.length o = true) : Bd (ah.set n o) := fun u hu => by
  rw [List.length_set]
  rcases List.mem_or_eq_of_mem_set hu with hu | hu
  · exact h u hu
  · rw [hu]
    exact ho
end MM
namespace K88
open PySem L2 MM
theorem kvs_bd {n w h : Nat} {st : Str → Cell} : ∀ M : List Str, D.bdK n (kvs M fun a => fD w h (st a)) = true
  | [] => rfl
  | a :: r => by
    show (D.bd n (fD w h (st a)) && D.bdK n (kvs r fun a => fD w h (st a))) = true
    rw [fD_bd, kvs_bd r]
    rfl
def stD (M : List Str) (w h : Nat) (st : Str → Cell) : D := .ins "Stamps" [("held", .dic (kvs (sortBy leS M) fun n => fD w h (st n)))]
theorem stD_bd (n : Nat) (M : List Str) (w h : Nat) (st : Str → Cell) : D.bd n (stD M w h st) = true := by
  show D.bdF n [("held", .dic (kvs (sortBy leS M) fun n => fD w h (st n)))] = true
  show (D.bd n (.dic (kvs (sortBy leS M) fun n => fD w h (st n))) && true) = true
  rw [Bool.and_true, D.bd]
  exact kvs_bd _
theorem dc_build {g : D → DL → Option DL} {ek ev : ME} {δ : DL} {F : Str → D} {ah : AH} : ∀ {L A : List Str}, (A ++ L).Nodup → (A ++ L).length < 100000 → (∀ x ∈ L, ∃ δ1, g (.str x) δ = some δ1 ∧ ∀ ah1, ek δ1 ah1 = some (.str x, ah1) ∧ ev δ1 ah1 = some (F x, ah1)) →
    dcGo ah.length g tYesM ek ev δ (L.map D.str) (ah ++ [.dic (kvs A F)]) = some (ah ++ [.dic (kvs (A ++ L) F)])
  | [], A, _, _, _ => by simp [dcGo]
  | x :: r, A, nd, hl, h => by
    obtain ⟨δ1, h1, h2⟩ := h x (by simp)
    have hx : x ∉ A := fun hm => by
      have := (List.nodup_append.mp nd).2.2 x hm x (by simp)
      exact this rfl
    have ih := dc_build (g := g) (ek := ek) (ev := ev) (δ := δ) (F := F) (ah := ah) (L := r) (A := A ++ [x]) (by simpa using nd) (by simpa using hl) fun y hy => h y (by simp [hy])
    have da : dicAt (ah ++ [.dic (kvs A F)]) ah.length = some (kvs A F) := by simp [dicAt]
    have hk : keyOf (.str x) = some (.inr x) := rfl
    have hlen : (kvs A F).length < 100000 := by
      rw [List.length_append] at hl
      simp only [kvs, List.length_map]
      omega
    simp only [List.map_cons, dcGo, h1, (h2 _).1, (h2 _).2, tYesM, hk, da, Option.bind_some, if_true, hlen, set_end]
    rw [putD_new hx, ih, List.append_assoc]
    rfl
theorem sort_mem {M : List Str} {n : Str} : n ∈ sortBy leS M ↔ n ∈ M := (sortBy_perm (le := leS) M).mem_iff
theorem Nms.sort {M : List Str} (h : Nms M) : Nms (sortBy leS M) := by
  have p := sortBy_perm (le := leS) M
  exact ⟨fun n hn => h.ok n (p.mem_iff.mp hn), p.nodup_iff.mpr h.nd, by rw [p.length_eq]; exact h.lo, by rw [p.length_eq]; exact h.hi⟩
theorem ev_init {M : List Str} (hM : Nms M) {w h : Nat} {st : Str → Cell} (h1 : 1 ≤ w) (h2 : w ≤ 6) (h3 : 1 ≤ h) (h4 : h ≤ 6) {ah : AH} {n : Nat} (hb : Bd ah) (hn : ah[n]? = some (.ins "Stamps" [])) :
    f_Stamps___init__ [.ptr n, .dic (kvs M fun a => fD w h (st a))] ah = some (.non, ah.set n (.ins "Stamps" [("held", .dic (kvs (sortBy leS M) fun a => fD w h (st a)))])) := by
  have hlt := (List.getElem?_eq_some_iff.mp hn).1
  have t0 : tNotM (tOf (eCall f_are_faces (aCons (eVar 1) aNil))) [some (.ptr n), some (.dic (kvs M fun a => fD w h (st a))), none] ah = some (false, ah) := tnot_ev (tof_ev ((call_ev (ma := aCons (eVar 1) aNil) (ds := [.dic (kvs M fun a => fD w h (st a))]) rfl).trans (ev_are_faces hM h1 h2 h3 h4 ah)))
  have srt : iAny (eFrz (f1 gSorted (eVar 1))) [some (.ptr n), some (.dic (kvs M fun a => fD w h (st a))), none] ah = some ((sortBy leS M).map D.str, ah) := by
    refine iAny_lst (frz_ev (f1_ev (x := .dic (kvs M fun a => fD w h (st a))) rfl ?_))
    show ((strsOf ((kvs M fun a => fD w h (st a)).map fun kv => keyD kv.1)).bind fun xs => if xs.length < 64 then some ((sortBy leS xs).map D.str) else none) = _
    rw [keys_kvs, strsOf_map, Option.bind_some, if_pos (by have := hM.hi; omega)]
  have dc : eDComp (iAny (eFrz (f1 gSorted (eVar 1)))) (tgN 2) tYesM (eVar 2) (eIx (eVar 1) (eVar 2)) [2] [some (.ptr n), some (.dic (kvs M fun a => fD w h (st a))), none] ah = some (.ptr ah.length, ah ++ [.dic (kvs (sortBy leS M) fun a => fD w h (st a))]) := by
    unfold eDComp
    rw [srt, Option.bind_some]
    have := dc_build (g := tgN 2) (ek := eVar 2) (ev := eIx (eVar 1) (eVar 2)) (δ := [some (.ptr n), some (.dic (kvs M fun a => fD w h (st a))), none]) (F := fun a => fD w h (st a)) (ah := ah) (L := sortBy leS M) (A := []) hM.sort.nd (by have := hM.sort.hi; rw [List.nil_append]; omega) fun x hx => ⟨_, rfl, fun ah1 => ⟨rfl, ix_dic (F := fun a => fD w h (st a)) (a := x) rfl rfl (sort_mem.mp hx)⟩⟩
    exact congrArg (Option.map _) this
  have fz : eFreeze (eDComp (iAny (eFrz (f1 gSorted (eVar 1)))) (tgN 2) tYesM (eVar 2) (eIx (eVar 1) (eVar 2)) [2]) [some (.ptr n), some (.dic (kvs M fun a => fD w h (st a))), none] ah = some (.dic (kvs (sortBy leS M) fun a => fD w h (st a)), ah ++ [.gone]) := by
    unfold eFreeze
    rw [dc, Option.bind_some]
    unfold freeze
    simp
  have ia : insAt (ah ++ [.gone]) n = some (("Stamps" : Str), ([] : List (Str × D))) := by
    unfold insAt
    rw [List.getElem?_append_left hlt, hn]
  have whole : s_Stamps___init__ [some (.ptr n), some (.dic (kvs M fun a => fD w h (st a))), none] ah = some (.nx [some (.ptr n), some (.dic (kvs M fun a => fD w h (st a))), none], (ah.set n (.ins "Stamps" [("held", .dic (kvs (sortBy leS M) fun a => fD w h (st a)))])) ++ [.gone]) := by
    unfold s_Stamps___init__
    refine (seq_nx (nil_t t0)).trans ?_
    unfold sFldM
    rw [fz, Option.bind_some]
    show (Option.bind (some (D.ptr n, ah ++ [.gone])) _) = _
    rw [Option.bind_some]
    simp only [ia, Option.bind_some, List.mem_singleton, List.length_nil]
    rw [if_pos ⟨trivial, by decide⟩, List.set_append_left _ _ hlt]
    rfl
  exact (fn_nx rfl whole).trans (congrArg some (trim_len (List.length_set ..) rfl (hb.set (by
    show D.bdF ah.length [("held", .dic (kvs (sortBy leS M) fun a => fD w h (st a)))] = true
    show (D.bd ah.length (.dic (kvs (sortBy leS M) fun n => fD w h (st n))) && true) = true
    rw [Bool.and_true, D.bd]
    exact kvs_bd _))))
theorem mk_stamps {M : List Str} (hM : Nms M) {w h : Nat} {st : Str → Cell} (h1 : 1 ≤ w) (h2 : w ≤ 6) (h3 : 1 ≤ h) (h4 : h ≤ 6) {ah : AH} {δ : DL} {ma : MA} (hb : Bd ah) (ha : ma δ ah = some ([.dic (kvs M fun a => fD w h (st a))], ah)) :
    eMkF "Stamps" f_Stamps___init__ ma δ ah = some (stD M w h st, ah) := by
  have hb2 : Bd (ah ++ [.ins "Stamps" []]) := hb.push rfl
  have i := ev_init hM (st := st) h1 h2 h3 h4 (n := ah.length) hb2 (by simp)
  rw [set_end] at i
  show (eMake "Stamps" f_Stamps___init__ ma δ ah).bind _ = _
  unfold eMake
  rw [ha, Option.bind_some]
  simp only [i, Option.bind_some]
  have fz : freeze (.ptr ah.length, ah ++ [.ins "Stamps" [("held", .dic (kvs (sortBy leS M) fun a => fD w h (st a)))]]) = some (stD M w h st, ah ++ [.gone]) := by
    unfold freeze
    simp [stD]
  rw [fz]
  exact congrArg some (trim_app (stD_bd _ _ _ _ _) hb)
end K88

set_option linter.all false
set_option maxRecDepth 100000
namespace K88
open PySem L2 MM
/-! ### deeds -/
inductive Dd where
  | press (a b : Str) | turn (a : Str) (q : Nat) | cut (a : Str) (c : Cell) | print (a : Str)
def dD (w h : Nat) : Dd → D
  | .press a b => .tup [.str "press", .str a, .str b]
  | .turn a q => .tup [.str "turn", .str a, .str (tz false q)]
  | .cut a c => .tup [.str "cut", .str a, fD w h c]
  | .print a => .tup [.str "print", .str a]
def DOk (M : List Str) (w h : Nat) : Dd → Prop
  | .press a b => a ∈ M ∧ b ∈ M ∧ a ≠ b
  | .turn a q => a ∈ M ∧ 1 ≤ q ∧ q ≤ 3 ∧ (w = h ∨ q = 2)
  | .cut a c => a ∈ M ∧ ∀ x y, ¬ (x < w ∧ y < h) → c x y = false
  | .print a => a ∈ M
def put1 (st : Str → Cell) (a : Str) (c : Cell) : Str → Cell := fun n => if n = a then c else st n
def eff (w h : Nat) : Dd → (Str → Cell) → Str → Cell
  | .press a b, st => put1 st b (xorC (st b) (mirC w (st a)))
  | .turn a q, st => put1 st a (turnB false q (w, h, st a)).2.2
  | .cut a c, st => put1 st a c
  | .print a, st => put1 st a (st a)
def tgt : Dd → Str
  | .press _ b => b
  | .turn a _ => a
  | .cut a _ => a
  | .print a => a
theorem turn_box {w h q : Nat} {c : Cell} (hq : q ≤ 3) (e : w = h ∨ q = 2) : fB (turnB false q (w, h, c)) = fD w h (turnB false q (w, h, c)).2.2 := by
  rcases e with rfl | rfl
  · match q, hq with
    | 0, _ => rfl
    | 1, _ => rfl
    | 2, _ => rfl
    | 3, _ => rfl
  · rfl
theorem ix_at {m b : ME} {δ : DL} {ah ah1 : AH} {l : List D} {i : Nat} {d : D} (h : m δ ah = some (.tup l, ah1)) (hb : b = eC (.int (i : Nat))) (e : l[i]? = some d) : eIx m b δ ah = some (d, ah1) := by
  subst hb
  exact ix_tup h rfl e
theorem lit_eq {m : ME} {δ : DL} {ah ah1 : AH} {x y : Str} {b : Bool} (h : m δ ah = some (.str x, ah1)) (e : decide (x = y) = b) : tOf (eBin gEq m (eC (.str y))) δ ah = some (b, ah1) := by
  subst e
  exact tof_ev (eq_str h rfl)
theorem lit_eqE {m : ME} {δ : DL} {ah ah1 : AH} {x y : Str} {b : Bool} (h : m δ ah = some (.str x, ah1)) (e : decide (x = y) = b) : eBin gEq m (eC (.str y)) δ ah = some (.bl b, ah1) := by
  subst e
  exact eq_str h rfl
theorem tz_in {q : Nat} (h1 : 1 ≤ q) (h2 : q ≤ 3) (ah : AH) : gIn ah (.str (tz false q)) k_HAND_TURNINGS = some (.bl true) := by
  match q, h1, h2 with
  | 1, _, _ => rfl
  | 2, _, _ => rfl
  | 3, _, _ => rfl
theorem ev_is_hand {q : Nat} (h1 : 1 ≤ q) (h2 : q ≤ 3) (ah : AH) : f_is_hand_turning [.str (tz false q)] ah = some (.bl true, ah) := by
  have hs : s_is_hand_turning [some (.str (tz false q))] ah = some (.rt (.bl true), ah) := by
    unfold s_is_hand_turning
    refine ret_ev ?_
    refine (and_t (ah1 := ah) rfl).trans ?_
    exact bin_ev rfl rfl (tz_in h1 h2 ah)
  exact (fn_rt rfl hs).trans (by rw [trim_self])
theorem lst_ev {ma : MA} {δ : DL} {ah ah1 : AH} {l : List D} (h : ma δ ah = some (l, ah1)) (hl : l.length ≤ 10000) : fLst ma δ ah = some (l, ah1) := by
  simp only [fLst, h, Option.bind_some]
  rw [if_pos hl]
theorem seq_skip {c : MT} {a r : MS} {δ : DL} {ah ah1 : AH} (h : c δ ah = some (false, ah1)) : sSeq (sIf c a sNil) r δ ah = r δ ah1 := seq_nx ((if_f h).trans rfl)
theorem seq_take {c : MT} {a r : MS} {δ : DL} {ah ah1 ah2 : AH} {d : D} (h : c δ ah = some (true, ah1)) (hr : a δ ah1 = some (.rt d, ah2)) : sSeq (sIf c a sNil) r δ ah = some (.rt d, ah2) := seq_rt ((if_t h).trans hr)
theorem ev_is_deed {M : List Str} (hM : Nms M) {w h : Nat} (h1 : 1 ≤ w) (h2 : w ≤ 6) (h3 : 1 ≤ h) (h4 : h ≤ 6) {d : Dd} (hd : DOk M w h d) (ah : AH) : f_is_deed [dD w h d] ah = some (.bl true, ah) := by
  suffices hs : s_is_deed [some (dD w h d)] ah = some (.rt (.bl true), ah) from (fn_rt rfl hs).trans (by rw [trim_self])
  have first : ∀ (l : List D) (k a : Str), l[0]? = some (.str k) → l[1]? = some (.str a) → 2 ≤ l.length → l.length ≤ 3 → a ∈ M → ∀ r : MS, sSeq (sIf (tOrM (tNotM (tOf (eIsB "tuple" (eVar 0)))) (tOrM (tNotM (tOf (eChain gLe gLe (eC (.int 2)) (e1 gLen (eVar 0)) (eC (.int 3))))) (tNotM (tOf (eIsB "str" (eIx (eVar 0) (eC (.int 0)))))))) (sRet (eC (.bl false))) sNil) (sSeq (sIf (tNotM (tOf (eCall f_is_name (aCons (eIx (eVar 0) (eC (.int 1))) aNil)))) (sRet (eC (.bl false))) sNil) r) [some (.tup l)] ah = r [some (.tup l)] ah := fun l k a e0 e1' l2 l3 ha r => by
    refine (seq_skip (ah1 := ah) ?_).trans (seq_skip (tnot_ev (tof_ev ((call_ev (cons_ev (ix_at (i := 1) rfl rfl e1') (nil_ev _ _))).trans (ev_is_name (hM.ok a ha) _)))))
    · rw [tor_f (ah1 := ah) rfl, tor_f (ah1 := ah) (tnot_ev (tof_ev (chain_t rfl (len_tup rfl) rfl (by omega) (by omega))))]
      have s0 : eIx (eVar 0) (eC (.int 0)) [some (.tup l)] ah = some (.str k, ah) := ix_at (i := 0) rfl rfl e0
      refine tnot_ev (tof_ev (b := true) ?_)
      unfold eIsB
      rw [s0]
      rfl
  have len3 : ∀ (l : List D), l.length = 3 → tOf (eBin gEq (e1 gLen (eVar 0)) (eC (.int 2))) [some (.tup l)] ah = some (false, ah) := fun l e => by
    have := len_tup (m := eVar 0) (δ := [some (.tup l)]) (ah := ah) rfl
    rw [e] at this
    exact tof_ev (bin_ev this rfl rfl)
  unfold s_is_deed
  cases d with
  | print a =>
    refine (first _ "print" a rfl rfl (by simp) (by simp) hd _).trans ?_
    refine seq_take (tof_ev (bin_ev (len_tup rfl) rfl rfl)) (ret_ev (lit_eqE (ix_at (i := 0) rfl rfl rfl) (by decide +kernel)))
  | press a b =>
    obtain ⟨ha, hb, hne⟩ := hd
    refine (first _ "press" a rfl rfl (by simp) (by simp) ha _).trans ?_
    refine (seq_skip (len3 _ rfl)).trans ?_
    refine seq_take (lit_eq (ix_at (i := 0) rfl rfl rfl) (by decide +kernel)) (ret_ev ?_)
    refine (and_t ((call_ev (cons_ev (ix_at (i := 2) rfl rfl rfl) (nil_ev _ _))).trans (ev_is_name (hM.ok b hb) _))).trans ?_
    refine (ne_str (ix_at (i := 1) rfl rfl rfl) (ix_at (i := 2) rfl rfl rfl)).trans ?_
    rw [decide_eq_false hne]
    rfl
  | turn a q =>
    obtain ⟨ha, q1, q3, _⟩ := hd
    refine (first _ "turn" a rfl rfl (by simp) (by simp) ha _).trans ?_
    refine (seq_skip (len3 _ rfl)).trans ?_
    refine (seq_skip (lit_eq (ix_at (i := 0) rfl rfl rfl) (by decide +kernel))).trans ?_
    refine seq_take (lit_eq (ix_at (i := 0) rfl rfl rfl) (by decide +kernel)) (ret_ev ?_)
    exact (call_ev (cons_ev (ix_at (i := 2) rfl rfl rfl) (nil_ev _ _))).trans (ev_is_hand q1 q3 _)
  | cut a c =>
    refine (first _ "cut" a rfl rfl (by simp) (by simp) hd.1 _).trans ?_
    refine (seq_skip (len3 _ rfl)).trans ?_
    refine (seq_skip (lit_eq (ix_at (i := 0) rfl rfl rfl) (by decide +kernel))).trans ?_
    refine (seq_skip (lit_eq (ix_at (i := 0) rfl rfl rfl) (by decide +kernel))).trans ?_
    refine ret_ev ?_
    refine (and_t (lit_eqE (ix_at (i := 0) rfl rfl rfl) (by decide +kernel))).trans ?_
    exact (call_ev (cons_ev (ix_at (i := 2) rfl rfl rfl) (nil_ev _ _))).trans (ev_is_face h1 h2 h3 h4 _)
def nmsIn : Dd → List Str
  | .press a b => [a, b]
  | .turn a _ => [a]
  | .cut a _ => [a]
  | .print a => [a]
theorem ev_names_in {w h : Nat} (d : Dd) (ah : AH) : f_names_in [dD w h d] ah = some (.lst ((nmsIn d).map D.str), ah) := by
  suffices hs : s_names_in [some (dD w h d)] ah = some (.rt (.lst ((nmsIn d).map D.str)), ah) from (fn_rt rfl hs).trans (by rw [trim_self])
  have one : ∀ (k a : Str) (l : List D), decide (k = "press") = false → s_names_in [some (.tup (.str k :: .str a :: l))] ah = some (.rt (.lst [.str a]), ah) := fun k a l e => by
    unfold s_names_in
    refine (seq_skip (lit_eq (ix_at (i := 0) rfl rfl rfl) e)).trans ?_
    refine ret_ev (frz_ev ?_)
    exact lst_ev (cons_ev (ix_at (i := 1) rfl rfl rfl) (nil_ev _ _)) (by simp)
  cases d with
  | press a b =>
    unfold s_names_in
    refine seq_take (lit_eq (ix_at (i := 0) rfl rfl rfl) (by decide +kernel)) (ret_ev (frz_ev ?_))
    exact lst_ev (cons_ev (ix_at (i := 1) rfl rfl rfl) (cons_ev (ix_at (i := 2) rfl rfl rfl) (nil_ev _ _))) (by simp [nmsIn])
  | turn a q => exact one _ _ _ (by decide +kernel)
  | cut a c => exact one _ _ _ (by decide +kernel)
  | print a => exact one _ _ _ (by decide +kernel)
end K88

set_option linter.all false
set_option maxRecDepth 100000
namespace K88
open PySem L2 MM
theorem meth_ev {c m : Str} {mf : MF} {mo : ME} {ma : MA} {δ : DL} {ah ah1 ah2 : AH} {d : D} {fs : List (Str × D)} {ds : List D} (h : mo δ ah = some (d, ah1)) (hi : asI ah1 d = some (c, fs)) (hf : fs.lookup m = none) (ha : ma δ ah1 = some (ds, ah2)) : eMeth [(c, mf)] m mo ma δ ah = mf (d :: ds) ah2 := by
  unfold eMeth
  rw [h, Option.bind_some, hi, Option.bind_some]
  have : ([(c, mf)] : List (Str × MF)).lookup c = some mf := by simp
  rw [this, Option.bind_some]
  simp only [hf, ha, Option.bind_some]
theorem fld_ev {c f : Str} {mo : ME} {δ : DL} {ah ah1 : AH} {d e : D} {fs : List (Str × D)} (h : mo δ ah = some (d, ah1)) (hi : asI ah1 d = some (c, fs)) (hf : fs.lookup f = some e) : eFld [c] f mo δ ah = some (e, ah1) := by
  unfold eFld
  rw [h, Option.bind_some, hi, Option.bind_some]
  simp only [List.mem_singleton, if_true, hf, Option.map_some]
def heldD (M : List Str) (w h : Nat) (st : Str → Cell) : D := .dic (kvs (sortBy leS M) fun n => fD w h (st n))
theorem held_ev {M : List Str} {w h : Nat} {st : Str → Cell} {mo : ME} {δ : DL} {ah ah1 : AH} (e : mo δ ah = some (stD M w h st, ah1)) : eFld ["Stamps"] "held" mo δ ah = some (heldD M w h st, ah1) := fld_ev e rfl (by simp [heldD])
theorem no_fld (M : List Str) (w h : Nat) (st : Str → Cell) {m : Str} (hm : (m == "held") = false) : ([("held", .dic (kvs (sortBy leS M) fun n => fD w h (st n)))] : List (Str × D)).lookup m = none := by
  rw [List.lookup_cons, hm]
  rfl
theorem smeth {M : List Str} {w h : Nat} {st : Str → Cell} {m : Str} {mf : MF} {mo : ME} {ma : MA} {δ : DL} {ah ah1 ah2 : AH} {ds : List D} (e : mo δ ah = some (stD M w h st, ah1)) (hm : (m == "held") = false) (ha : ma δ ah1 = some (ds, ah2)) : eMeth [("Stamps", mf)] m mo ma δ ah = mf (stD M w h st :: ds) ah2 := meth_ev e rfl (no_fld M w h st hm) ha
section
variable {M : List Str} {w h : Nat} {st : Str → Cell}
theorem ev_names (ah : AH) : f_Stamps_names [stD M w h st] ah = some (.lst ((sortBy leS M).map D.str), ah) := by
  have hs : s_Stamps_names [some (stD M w h st)] ah = some (.rt (.lst ((sortBy leS M).map D.str)), ah) := by
    unfold s_Stamps_names
    refine ret_ev (frz_ev (f1_ev (held_ev rfl) ?_))
    show some ((kvs (sortBy leS M) fun n => fD w h (st n)).map fun kv => keyD kv.1) = _
    rw [keys_kvs]
  exact (fn_rt rfl hs).trans (by rw [trim_self])
theorem ev_sfaces (ah : AH) : f_Stamps_faces [stD M w h st] ah = some (heldD M w h st, ah) := by
  have hs : s_Stamps_faces [some (stD M w h st)] ah = some (.rt (heldD M w h st), ah) := by
    unfold s_Stamps_faces
    refine ret_ev ?_
    unfold eFrzD dDict
    rw [held_ev rfl]
    rfl
  exact (fn_rt rfl hs).trans (by rw [trim_self])
theorem ev_sbox (hM : Nms M) (h2 : w ≤ 6) (h3 : 1 ≤ h) (ah : AH) : f_Stamps_box [stD M w h st] ah = some (.tup [.int w, .int h], ah) := by
  have hl : 0 < (sortBy leS M).length := by have := hM.sort.lo; omega
  have i0 : eIx (eMeth [("Stamps", f_Stamps_names)] "names" (eVar 0) aNil) (eC (.int 0)) [some (stD M w h st)] ah = some (.str (sortBy leS M)[0], ah) := by
    refine bin_ev ((smeth (M := M) (w := w) (h := h) (st := st) rfl (by decide +kernel) (nil_ev _ _)).trans (ev_names ah)) rfl ?_
    show atI ((sortBy leS M).map D.str) 0 = _
    simp [atI, ixN, hl]
  have hs : s_Stamps_box [some (stD M w h st)] ah = some (.rt (.tup [.int w, .int h]), ah) := by
    unfold s_Stamps_box
    exact ret_ev ((call_ev (cons_ev (ix_dic (F := fun n => fD w h (st n)) (held_ev rfl) i0 (List.getElem_mem hl)) (nil_ev _ _))).trans (ev_box_of h2 h3 ah))
  exact (fn_rt rfl hs).trans (by rw [trim_self])
theorem ev_has_turning {q : Nat} (q3 : q ≤ 3) (e : w = h ∨ q = 2) (ah : AH) : f_has_turning [.tup [.int w, .int h], .str (tz false q)] ah = some (.bl true, ah) := by
  have c0 : eBin gEq (eIx (eVar 0) (eC (.int 0))) (eIx (eVar 0) (eC (.int 1))) [some (.tup [.int w, .int h]), some (.str (tz false q))] ah = some (.bl (decide ((w : Int) = h)), ah) := bin_ev (ix_at (i := 0) rfl rfl rfl) (ix_at (i := 1) rfl rfl rfl) rfl
  have hs : s_has_turning [some (.tup [.int w, .int h]), some (.str (tz false q))] ah = some (.rt (.bl true), ah) := by
    unfold s_has_turning
    refine ret_ev ?_
    unfold eOr
    rw [c0, Option.bind_some]
    by_cases hw : w = h
    · subst hw
      simp
    · have q2 : q = 2 := e.resolve_left hw
      subst q2
      have : decide ((w : Int) = h) = false := decide_eq_false (by omega)
      simp only [this]
      exact bin_ev (bin_ev ((call_ev (ds := [.str (tz false 2)]) rfl).trans (ev_quarters false (by decide) ah)) rfl rfl) rfl rfl
  exact (fn_rt rfl hs).trans (by rw [trim_self])
theorem nms_sub {d : Dd} (hd : DOk M w h d) : ∀ n ∈ nmsIn d, n ∈ M := fun n hn => by
  cases d with
  | press a b =>
    simp only [nmsIn, List.mem_cons, List.not_mem_nil, or_false] at hn
    rcases hn with rfl | rfl
    · exact hd.1
    · exact hd.2.1
  | turn a q => obtain rfl : n = a := by simpa [nmsIn] using hn
                exact hd.1
  | cut a c => obtain rfl : n = a := by simpa [nmsIn] using hn
               exact hd.1
  | print a => obtain rfl : n = a := by simpa [nmsIn] using hn
               exact hd
theorem ev_need (hM : Nms M) (h2 : w ≤ 6) (h3 : 1 ≤ h) {d : Dd} (hd : DOk M w h d) (ah : AH) : f_Stamps_need_deed [stD M w h st, dD w h d] ah = some (.non, ah) := by
  obtain ⟨δ', ah', lp, rfl, x, rfl⟩ := forGo_inv (g := tgN 2) (b := sIf (tOf (eBin gNotIn (eVar 2) (eFld ["Stamps"] "held" (eVar 0)))) sNever sNil) (I := fun _ δ ah' => ah' = ah ∧ ∃ x, δ = [some (stD M w h st), some (dD w h d), x]) (l := (nmsIn d).map D.str) (done := []) (δ := [some (stD M w h st), some (dD w h d), none]) ⟨rfl, none, rfl⟩
    fun dn z r δ ah' es ⟨e, x, ed⟩ => by
      subst e ed
      have hz : z ∈ (nmsIn d).map D.str := by rw [List.nil_append] at es; rw [es]; simp
      obtain ⟨n, hn, rfl⟩ := List.mem_map.mp hz
      refine ⟨_, _, _, rfl, nil_t (tof_ev (bin_ev (x := .str n) rfl (held_ev rfl) ?_)), rfl, some (.str n), rfl⟩
      have : dIn ah' (.str n) (heldD M w h st) = some true := by
        show (some ((dLook (kvs (sortBy leS M) fun n => fD w h (st n)) (.inr n)).isSome)) = some true
        rw [dLook_kvs (sort_mem.mpr (nms_sub hd n hn))]
        rfl
      rw [gNotIn, this]
      rfl
  have lit : ∀ {k : Str} {y : Str} {b : Bool} {l : List D}, decide (k = y) = b → tOf (eBin gEq (eIx (eVar 1) (eC (.int 0))) (eC (.str y))) [some (stD M w h st), some (.tup (.str k :: l)), x] ah' = some (b, ah') := fun e => lit_eq (ix_at (i := 0) rfl rfl rfl) e
  suffices hs : s_Stamps_need_deed [some (stD M w h st), some (dD w h d), none] ah' = some (.nx [some (stD M w h st), some (dD w h d), x], ah') from (fn_nx rfl hs).trans (by rw [trim_self])
  unfold s_Stamps_need_deed
  refine (seq_nx ((for_ev (iAny_lst ((call_ev (ds := [dD w h d]) rfl).trans (ev_names_in d _)))).trans lp)).trans ?_
  cases d with
  | press a b => exact (seq_skip (tand_f (lit (by decide +kernel)))).trans (nil_t (tand_f (lit (by decide +kernel))))
  | print a => exact (seq_skip (tand_f (lit (by decide +kernel)))).trans (nil_t (tand_f (lit (by decide +kernel))))
  | turn a q =>
    refine (seq_skip ((tand_t (lit (by decide +kernel))).trans (tnot_ev (b := true) (tof_ev ?_)))).trans (nil_t (tand_f (lit (by decide +kernel))))
    exact (call_ev (cons_ev ((smeth (M := M) (w := w) (h := h) (st := st) rfl (by decide +kernel) (nil_ev _ _)).trans (ev_sbox hM h2 h3 ah')) (cons_ev (ix_at (i := 2) rfl rfl rfl) (nil_ev _ _)))).trans (ev_has_turning hd.2.2.1 hd.2.2.2 _)
  | cut a c =>
    refine (seq_skip (tand_f (lit (by decide +kernel)))).trans (nil_t ((tand_t (lit (by decide +kernel))).trans (tof_ev ?_)))
    refine bin_ev ((call_ev (cons_ev (ix_at (i := 2) rfl rfl rfl) (nil_ev _ _))).trans (ev_box_of h2 h3 _)) ((smeth (M := M) (w := w) (h := h) (st := st) rfl (by decide +kernel) (nil_ev _ _)).trans (ev_sbox hM h2 h3 ah')) ?_
    rw [gNe, dEq_pb (n := 1) (by decide) rfl rfl]
    simp
end
end K88

set_option linter.all false
set_option maxRecDepth 100000
namespace K88
open PySem L2 MM
theorem sort_sort (M : List Str) : sortBy leS (sortBy leS M) = sortBy leS M := (sortBy_uniq leS_tr leS_to leS_an (List.Perm.refl _) (sortBy_sorted leS_tr leS_to M)).symm
def lawD (M : List Str) (w h : Nat) (st : Str → Cell) : D := .dic (kvs M fun n => fD w h (st n))
theorem lawD_bd (n : Nat) (M : List Str) (w h : Nat) (st : Str → Cell) : D.bd n (lawD M w h st) = true := by
  rw [lawD, D.bd]
  exact kvs_bd M
theorem kvs_congr {M : List Str} {F F' : Str → D} (e : ∀ n ∈ M, F n = F' n) : kvs M F = kvs M F' := List.map_congr_left fun n hn => by rw [e n hn]
theorem eff_fD {M : List Str} {w h : Nat} {st : Str → Cell} (d : Dd) {v : D} (hv : v = fD w h (eff w h d st (tgt d))) : kvs M (fun n => if n = tgt d then v else fD w h (st n)) = kvs M fun n => fD w h (eff w h d st n) := by
  subst hv
  refine kvs_congr fun n hn => ?_
  by_cases e : n = tgt d
  · rw [if_pos e, e]
  · rw [if_neg e]
    cases d <;> (simp only [eff, put1, tgt] at e ⊢; rw [if_neg e])
theorem tgt_mem {M : List Str} {w h : Nat} {d : Dd} (hd : DOk M w h d) : tgt d ∈ M := nms_sub hd _ (by cases d <;> simp [nmsIn, tgt])
theorem subD_ev {k : Nat} {mi mv : ME} {δ : DL} {ah : AH} {M : List Str} {F : Str → D} {a : Str} {v : D} (hk : δ[k]? = some (some (.ptr ah.length))) (hv : mv δ (ah ++ [.dic (kvs M F)]) = some (v, ah ++ [.dic (kvs M F)])) (hi : mi δ (ah ++ [.dic (kvs M F)]) = some (.str a, ah ++ [.dic (kvs M F)])) (ha : a ∈ M) (hl : M.length ≤ 6) :
    sSubD (eVar k) mi mv δ (ah ++ [.dic (kvs M F)]) = some (.nx δ, ah ++ [.dic (kvs M fun n => if n = a then v else F n)]) := by
  have da : dicAt (ah ++ [.dic (kvs M F)]) ah.length = some (kvs M F) := by simp [dicAt]
  have hk' : keyOf (.str a) = some (.inr a) := rfl
  have hlen : (kvs M F).length < 100000 := by simp only [kvs, List.length_map]; omega
  unfold sSubD
  rw [hv, Option.bind_some, var_ev hk, Option.bind_some, hi, Option.bind_some]
  simp only [hk', Option.bind_some, da, hlen, if_true, set_end, putD_kvs ha]
section
variable {M : List Str} {w h : Nat} {st : Str → Cell}
theorem ev_behind (hM : Nms M) (h1 : 1 ≤ w) (h2 : w ≤ 6) (h3 : 1 ≤ h) (h4 : h ≤ 6) {d : Dd} (hd : DOk M w h d) {ah : AH} (hb : Bd ah) : f_Stamps_face_behind [stD M w h st, dD w h d] ah = some (fD w h (eff w h d st (tgt d)), ah) := by
  have held : ∀ {k : Str} {l : List D} {i : Nat} {a : Str}, ((.str k :: l : List D))[i]? = some (.str a) → a ∈ M → eIx (eFld ["Stamps"] "held" (eVar 0)) (eIx (eVar 1) (eC (.int (i : Nat)))) [some (stD M w h st), some (.tup (.str k :: l))] ah = some (fD w h (st a), ah) := fun e ha =>
    ix_dic (F := fun n => fD w h (st n)) (held_ev rfl) (ix_at rfl rfl e) (sort_mem.mpr ha)
  have lit : ∀ {k : Str} {y : Str} {b : Bool} {l : List D}, decide (k = y) = b → tOf (eBin gEq (eIx (eVar 1) (eC (.int 0))) (eC (.str y))) [some (stD M w h st), some (.tup (.str k :: l))] ah = some (b, ah) := fun e => lit_eq (ix_at (i := 0) rfl rfl rfl) e
  suffices hs : s_Stamps_face_behind [some (stD M w h st), some (dD w h d)] ah = some (.rt (fD w h (eff w h d st (tgt d))), ah) from (fn_rt rfl hs).trans (by rw [trim_self])
  unfold s_Stamps_face_behind
  cases d with
  | press a b =>
    obtain ⟨ha, hb', _⟩ := hd
    refine seq_take (lit (by decide +kernel)) (ret_ev ?_)
    refine ((call_ev (cons_ev (held (i := 2) rfl hb') (cons_ev ((call_ev (cons_ev (held (i := 1) rfl ha) (nil_ev _ _))).trans (ev_mirrored h2 h4 ah)) (nil_ev _ _)))).trans (ev_laid_two h2 h4 hb)).trans ?_
    simp [eff, put1, tgt]
  | turn a q =>
    refine (seq_skip (lit (by decide +kernel))).trans (seq_take (lit (by decide +kernel)) (ret_ev ?_))
    refine ((call_ev (cons_ev (held (i := 1) rfl hd.1) (cons_ev (ix_at (i := 2) rfl rfl rfl) (nil_ev _ _)))).trans (ev_turned (b := (w, h, st a)) ⟨h1, h2, h3, h4⟩ false hd.2.2.1 ah)).trans ?_
    rw [turn_box hd.2.2.1 hd.2.2.2]
    simp [eff, put1, tgt]
  | cut a c =>
    refine (seq_skip (lit (by decide +kernel))).trans ((seq_skip (lit (by decide +kernel))).trans (seq_take (lit (by decide +kernel)) (ret_ev ?_)))
    refine (ix_at (i := 2) rfl rfl rfl).trans ?_
    simp [eff, put1, tgt]
  | print a =>
    refine (seq_skip (lit (by decide +kernel))).trans ((seq_skip (lit (by decide +kernel))).trans ((seq_skip (lit (by decide +kernel))).trans (ret_ev ?_)))
    refine (held (i := 1) rfl hd).trans ?_
    simp [eff, put1, tgt]
theorem kvs_push {ah : AH} (hb : Bd ah) : Bd (ah ++ [.dic (kvs M fun n => fD w h (st n))]) := hb.push (kvs_bd M)
theorem freeze_endD (ah : AH) (l : List (Key × D)) : freeze (.ptr ah.length, ah ++ [.dic l]) = some (.dic l, ah ++ [.gone]) := by
  unfold freeze
  simp
theorem ev_done (hM : Nms M) (h1 : 1 ≤ w) (h2 : w ≤ 6) (h3 : 1 ≤ h) (h4 : h ≤ 6) {d : Dd} (hd : DOk M w h d) {ah : AH} (hb : Bd ah) : f_Stamps_done [stD M w h st, dD w h d] ah = some (stD M w h (eff w h d st), ah) := by
  have hb2 : Bd (ah ++ [.dic (kvs (sortBy leS M) fun n => fD w h (st n))]) := kvs_push hb
  have last : eIx (eCall f_names_in (aCons (eVar 1) aNil)) (eNeg (eC (.int 1))) [some (stD M w h st), some (dD w h d), some (.ptr ah.length)] (ah ++ [.dic (kvs (sortBy leS M) fun n => fD w h (st n))]) = some (.str (tgt d), ah ++ [.dic (kvs (sortBy leS M) fun n => fD w h (st n))]) := by
    refine bin_ev ((call_ev (ma := aCons (eVar 1) aNil) (ds := [dD w h d]) rfl).trans (ev_names_in d _)) rfl ?_
    show atI ((nmsIn d).map D.str) (-1) = _
    cases d <;> rfl
  have sub := subD_ev (k := 2) (mi := eIx (eCall f_names_in (aCons (eVar 1) aNil)) (eNeg (eC (.int 1)))) (mv := eMeth [("Stamps", f_Stamps_face_behind)] "face_behind" (eVar 0) (aCons (eVar 1) aNil)) (δ := [some (stD M w h st), some (dD w h d), some (.ptr ah.length)]) (ah := ah) (M := sortBy leS M) (F := fun n => fD w h (st n)) (a := tgt d) (v := fD w h (eff w h d st (tgt d))) rfl
    ((smeth (M := M) (w := w) (h := h) (st := st) rfl (by decide +kernel) (cons_ev (d := dD w h d) rfl (nil_ev _ _))).trans (ev_behind hM h1 h2 h3 h4 hd hb2)) last (sort_mem.mpr (tgt_mem hd)) hM.sort.hi
  rw [eff_fD d rfl] at sub
  have whole : s_Stamps_done [some (stD M w h st), some (dD w h d), none] ah = some (.rt (stD M w h (eff w h d st)), ah ++ [.gone]) := by
    unfold s_Stamps_done
    refine (seq_skip (tnot_ev (b := true) (tof_ev ((call_ev (ma := aCons (eVar 1) aNil) (ds := [dD w h d]) rfl).trans (ev_is_deed hM h1 h2 h3 h4 hd ah))))).trans ?_
    refine (seq_nx (exp_ev ((smeth (M := M) (w := w) (h := h) (st := st) rfl (by decide +kernel) (cons_ev (d := dD w h d) rfl (nil_ev _ _))).trans (ev_need hM h2 h3 hd ah)))).trans ?_
    have own : eOwnD (dDict (eFld ["Stamps"] "held" (eVar 0))) [some (stD M w h st), some (dD w h d), none] ah = some (.ptr ah.length, ah ++ [.dic (kvs (sortBy leS M) fun n => fD w h (st n))]) := by
      unfold eOwnD dDict
      rw [held_ev rfl]
      rfl
    refine (seq_nx (asg_ev own)).trans ((seq_nx sub).trans ((frz_slot rfl (freeze_endD _ _)).trans (ret_ev ?_)))
    have hb3 : Bd (ah ++ [.gone]) := hb.push rfl
    have mk := mk_stamps hM.sort (st := eff w h d st) h1 h2 h3 h4 (δ := [some (stD M w h st), some (dD w h d), some (.dic (kvs (sortBy leS M) fun n => fD w h (eff w h d st n)))]) (ma := aCons (eVar 2) aNil) hb3 rfl
    refine mk.trans ?_
    rw [stD, sort_sort]
    rfl
  exact (fn_rt rfl whole).trans (congrArg some (trim_app (stD_bd _ _ _ _ _) hb))
theorem ev_ldone (hM : Nms M) (h1 : 1 ≤ w) (h2 : w ≤ 6) (h3 : 1 ≤ h) (h4 : h ≤ 6) {d : Dd} (hd : DOk M w h d) {ah : AH} (hb : Bd ah) : f__law_done [lawD M w h st, dD w h d] ah = some (lawD M w h (eff w h d st), ah) := by
  have hb2 : Bd (ah ++ [.dic (kvs M fun n => fD w h (st n))]) := kvs_push hb
  generalize hδ : ([some (lawD M w h st), some (dD w h d), some (.ptr ah.length)] : DL) = δ
  generalize hah : ah ++ [.dic (kvs M fun n => fD w h (st n))] = ah2 at hb2
  have held : ∀ {k : Str} {l : List D} {i : Nat} {a : Str}, δ[1]? = some (some (.tup (.str k :: l))) → ((.str k :: l : List D))[i]? = some (.str a) → a ∈ M → eIx (eVar 0) (eIx (eVar 1) (eC (.int (i : Nat)))) δ ah2 = some (fD w h (st a), ah2) := fun e0 e ha =>
    ix_dic (F := fun n => fD w h (st n)) (var_ev (by rw [← hδ]; rfl)) (ix_at (var_ev e0) rfl e) ha
  have lit : ∀ {k : Str} {y : Str} {b : Bool} {l : List D} {ah : AH}, δ[1]? = some (some (.tup (.str k :: l))) → decide (k = y) = b → tOf (eBin gEq (eIx (eVar 1) (eC (.int 0))) (eC (.str y))) δ ah = some (b, ah) := fun e0 e => lit_eq (ix_at (i := 0) (var_ev e0) rfl rfl) e
  have own : eOwnD (dDict (eVar 0)) [some (lawD M w h st), some (dD w h d), none] ah = some (.ptr ah.length, ah2) := by
    rw [← hah]
    rfl
  have sub : ∀ {i : Nat} {mv : ME}, eIx (eVar 1) (eC (.int (i : Nat))) δ ah2 = some (.str (tgt d), ah2) → mv δ ah2 = some (fD w h (eff w h d st (tgt d)), ah2) → sSubD (eVar 2) (eIx (eVar 1) (eC (.int (i : Nat)))) mv δ ah2 = some (.nx δ, ah ++ [.dic (kvs M fun n => fD w h (eff w h d st n))]) := fun {i mv} e1 e2 => by
    rw [← eff_fD d rfl]
    subst hah
    exact subD_ev (by rw [← hδ]; rfl) e2 e1 (tgt_mem hd) hM.hi
  have fin : ∀ {st' : Str → Cell}, sRet (eFreeze (eVar 2)) δ (ah ++ [.dic (kvs M fun n => fD w h (st' n))]) = some (.rt (lawD M w h st'), ah ++ [.gone]) := fun {st'} => by
    refine ret_ev ?_
    unfold eFreeze
    rw [var_ev (by rw [← hδ]; rfl), Option.bind_some, freeze_endD]
    rfl
  have whole : s__law_done [some (lawD M w h st), some (dD w h d), none] ah = some (.rt (lawD M w h (eff w h d st)), ah ++ [.gone]) := by
    unfold s__law_done
    refine (seq_nx (asg_ev own)).trans ?_
    show sSeq _ _ [some (lawD M w h st), some (dD w h d), some (.ptr ah.length)] ah2 = _
    rw [hδ]
    cases d with
    | press a b =>
      obtain ⟨ha, hb', _⟩ := id hd
      have e0 : δ[1]? = some (some (.tup [.str "press", .str a, .str b])) := by rw [← hδ]; rfl
      have sp := (call_ev (cons_ev (held (i := 1) e0 rfl ha) (cons_ev (a := eC (.str "m0")) (d := .str (tz true 0)) rfl (nil_ev _ _)))).trans (ev_spun (b := (w, h, st a)) ⟨h1, h2, h3, h4⟩ true (q := 0) (by decide) hb2)
      have ov := (call_ev (cons_ev (held (i := 2) e0 rfl hb') (cons_ev sp (nil_ev _ _)))).trans (ev_over (c := st b) (e := mirC w (st a)) h2 h4 hb2)
      refine (seq_nx ((if_t (lit e0 (by decide +kernel))).trans (sub (i := 2) (ix_at (var_ev e0) rfl rfl) (ov.trans (by simp [eff, put1, tgt]))))).trans ?_
      exact (seq_skip (lit e0 (by decide +kernel))).trans ((seq_skip (lit e0 (by decide +kernel))).trans fin)
    | turn a q =>
      have e0 : δ[1]? = some (some (.tup [.str "turn", .str a, .str (tz false q)])) := by rw [← hδ]; rfl
      have sp := (call_ev (cons_ev (held (i := 1) e0 rfl hd.1) (cons_ev (ix_at (i := 2) (var_ev e0) rfl rfl) (nil_ev _ _)))).trans (ev_spun (b := (w, h, st a)) ⟨h1, h2, h3, h4⟩ false hd.2.2.1 hb2)
      rw [turn_box hd.2.2.1 hd.2.2.2] at sp
      refine (seq_skip (lit e0 (by decide +kernel))).trans ((seq_nx ((if_t (lit e0 (by decide +kernel))).trans (sub (i := 1) (ix_at (var_ev e0) rfl rfl) (sp.trans (by simp [eff, put1, tgt]))))).trans ?_)
      exact (seq_skip (lit e0 (by decide +kernel))).trans fin
    | cut a c =>
      have e0 : δ[1]? = some (some (.tup [.str "cut", .str a, fD w h c])) := by rw [← hδ]; rfl
      refine (seq_skip (lit e0 (by decide +kernel))).trans ((seq_skip (lit e0 (by decide +kernel))).trans ((seq_nx ((if_t (lit e0 (by decide +kernel))).trans (sub (i := 1) (ix_at (var_ev e0) rfl rfl) ((ix_at (i := 2) (var_ev e0) rfl rfl).trans (by simp [eff, put1, tgt]))))).trans fin))
    | print a =>
      have e0 : δ[1]? = some (some (.tup [.str "print", .str a])) := by rw [← hδ]; rfl
      refine (seq_skip (lit e0 (by decide +kernel))).trans ((seq_skip (lit e0 (by decide +kernel))).trans ((seq_skip (lit e0 (by decide +kernel))).trans ?_))
      rw [← hah]
      have : eff w h (.print a) st = st := funext fun n => by
        simp only [eff, put1]
        split
        · rename_i e; rw [e]
        · rfl
      rw [this]
      exact fin
  exact (fn_rt rfl whole).trans (congrArg some (trim_app (lawD_bd _ _ _ _ _) hb))
end
end K88

set_option linter.all false
set_option maxRecDepth 100000
namespace K88
open PySem L2 MM
/-! ### standings -/
def stands (w h : Nat) (st : Str → Cell) : List Dd → List (Str → Cell)
  | [] => [st]
  | d :: r => st :: stands w h (eff w h d st) r
def endS (w h : Nat) (st : Str → Cell) : List Dd → Str → Cell
  | [] => st
  | d :: r => endS w h (eff w h d st) r
section
variable {M : List Str} {w h : Nat}
theorem stands_len (st : Str → Cell) : ∀ row : List Dd, (stands w h st row).length = row.length + 1
  | [] => rfl
  | d :: r => by rw [stands, List.length_cons, stands_len _ r, List.length_cons]
theorem stands_get : ∀ (row : List Dd) (st : Str → Cell), (stands w h st row)[row.length]? = some (endS w h st row)
  | [], st => rfl
  | d :: r, st => by
    rw [stands, List.length_cons, List.getElem?_cons_succ]
    exact stands_get r _
theorem stands_snoc (d : Dd) : ∀ (row : List Dd) (st : Str → Cell), stands w h st (row ++ [d]) = stands w h st row ++ [eff w h d (endS w h st row)]
  | [], st => rfl
  | c :: r, st => by rw [List.cons_append, stands, stands_snoc d r, stands, endS, List.cons_append]
theorem atI_last {F : (Str → Cell) → D} (st : Str → Cell) (row : List Dd) : atI ((stands w h st row).map F) (-1) = some (F (endS w h st row)) := by
  unfold atI ixN
  rw [List.length_map, stands_len, if_neg (by decide), if_pos (by omega), Option.bind_some]
  have : ((-1 : Int) + ((row.length + 1 : Nat) : Int)).toNat = row.length := by omega
  rw [this, List.getElem?_map, stands_get]
  rfl
theorem mid_get {α : Type} {l dn r : List α} {d : α} (e : [] ++ l = dn ++ d :: r) : l[dn.length]? = some d := by
  rw [List.nil_append] at e
  rw [e, List.getElem?_append_right (Nat.le_refl _), Nat.sub_self]
  rfl
theorem take_succ {α : Type} {l : List α} {k : Nat} {a : α} (e : l[k]? = some a) : l.take (k + 1) = l.take k ++ [a] := by
  rw [List.take_add_one, e]
  rfl
theorem ptr_app {k : Nat} {e : ME} {δ : DL} {ah : AH} {acc : List D} {d : D} (hk : δ[k]? = some (some (.ptr ah.length))) (he : e δ (ah ++ [.lst acc]) = some (d, ah ++ [.lst acc])) (hl : acc.length < 100000) : sExpr (eMut gAppend (eVar k) (aCons e aNil)) δ (ah ++ [.lst acc]) = some (.nx δ, ah ++ [.lst (acc ++ [d])]) := exp_ev (app_ev hk he hl)
theorem last_ev {k : Nat} {δ : DL} {ah : AH} {F : (Str → Cell) → D} {st : Str → Cell} {row : List Dd} (hk : δ[k]? = some (some (.ptr ah.length))) : eIx (eVar k) (eNeg (eC (.int 1))) δ (ah ++ [.lst ((stands w h st row).map F)]) = some (F (endS w h st row), ah ++ [.lst ((stands w h st row).map F)]) := by
  refine bin_ev (var_ev hk) rfl ?_
  have hK : asK (ah ++ [.lst ((stands w h st row).map F)]) (.ptr ah.length) = none := by simp [asK]
  unfold gIx
  rw [hK]
  show (asL (ah ++ [.lst ((stands w h st row).map F)]) (.ptr ah.length)).bind (fun l => atI l (-1)) = _
  have : asL (ah ++ [.lst ((stands w h st row).map F)]) (.ptr ah.length) = some ((stands w h st row).map F) := by simp [asL]
  rw [this, Option.bind_some, atI_last]
theorem fr_ret {k : Nat} {δ : DL} {ah : AH} {l : List D} (hk : δ[k]? = some (some (.ptr ah.length))) : sRet (eFreeze (eVar k)) δ (ah ++ [.lst l]) = some (.rt (.lst l), ah ++ [.gone]) := by
  refine ret_ev ?_
  unfold eFreeze
  rw [var_ev hk, Option.bind_some, freeze_end]
theorem lst_push {ah : AH} {F : (Str → Cell) → D} (hF : ∀ n st, D.bd n (F st) = true) (hb : Bd ah) (l : List (Str → Cell)) : Bd (ah ++ [.lst (l.map F)]) := hb.push (by
  show D.bds _ (l.map F) = true
  induction l with
  | nil => rfl
  | cons a r ih =>
    rw [List.map_cons, D.bds, hF, ih]
    rfl)
theorem lst_bd {F : (Str → Cell) → D} (hF : ∀ n st, D.bd n (F st) = true) (n : Nat) (l : List (Str → Cell)) : D.bd n (.lst (l.map F)) = true := by
  rw [D.bd]
  induction l with
  | nil => rfl
  | cons a r ih =>
    rw [List.map_cons, D.bds, hF, ih]
    rfl
theorem dD_bd (n : Nat) (d : Dd) : D.bd n (dD w h d) = true := by
  cases d with
  | cut a c =>
    show (true && (true && (D.bd n (fD w h c) && true))) = true
    rw [fD_bd]
    rfl
  | _ => rfl
theorem row_bd (n : Nat) : ∀ row : List Dd, D.bd n (.lst (row.map (dD w h))) = true
  | [] => rfl
  | d :: r => by
    have := row_bd n r
    rw [D.bd] at this ⊢
    rw [List.map_cons, D.bds, dD_bd, this]
    rfl
theorem ev_lstood (hM : Nms M) (h1 : 1 ≤ w) (h2 : w ≤ 6) (h3 : 1 ≤ h) (h4 : h ≤ 6) {st : Str → Cell} {row : List Dd} (hr : ∀ d ∈ row, DOk M w h d) (hl : row.length ≤ 1000) {ah : AH} (hb : Bd ah) :
    f__law_stood [lawD M w h st, .lst (row.map (dD w h))] ah = some (.lst ((stands w h st row).map (lawD M w h)), ah) := by
  have hF : ∀ n st, D.bd n (lawD M w h st) = true := fun n st => lawD_bd n M w h st
  obtain ⟨δ', ah', lp, rfl, x, rfl⟩ := forGo_inv (g := tgN 3) (b := sExpr (eMut gAppend (eVar 2) (aCons (eCall f__law_done (aCons (eIx (eVar 2) (eNeg (eC (.int 1)))) (aCons (eVar 3) aNil))) aNil))) (I := fun dn δ ah' => ah' = ah ++ [.lst ((stands w h st (row.take dn.length)).map (lawD M w h))] ∧ ∃ x, δ = [some (lawD M w h st), some (.lst (row.map (dD w h))), some (.ptr ah.length), x])
    (l := row.map (dD w h)) (done := []) (δ := [some (lawD M w h st), some (.lst (row.map (dD w h))), some (.ptr ah.length), none]) (ah := ah ++ [.lst [lawD M w h st]]) ⟨rfl, none, rfl⟩ fun dn z r δ ah' es ⟨e, x, ed⟩ => by
      subst e ed
      have hz := mid_get es
      rw [List.getElem?_map] at hz
      obtain ⟨d, hd, rfl⟩ := Option.map_eq_some_iff.mp hz
      have hk := (List.getElem?_eq_some_iff.mp hd).1
      have hle : (stands w h st (row.take dn.length)).length < 100000 := by rw [stands_len, List.length_take]; omega
      refine ⟨_, _, _, rfl, ptr_app (d := lawD M w h (eff w h d (endS w h st (row.take dn.length)))) rfl ((call_ev (cons_ev (last_ev (k := 2) (F := lawD M w h) rfl) (cons_ev (a := eVar 3) (d := dD w h d) rfl (nil_ev _ _)))).trans (ev_ldone hM h1 h2 h3 h4 (hr d (List.mem_of_getElem? hd)) (lst_push hF hb _))) (by rw [List.length_map]; exact hle), ?_, some (dD w h d), rfl⟩
      rw [List.length_append, List.length_singleton, take_succ hd, stands_snoc, List.map_append]
      rfl
  have whole : s__law_stood [some (lawD M w h st), some (.lst (row.map (dD w h))), none, none] ah = some (.rt (.lst ((stands w h st row).map (lawD M w h))), ah ++ [.gone]) := by
    rw [List.nil_append, List.length_map, List.take_length] at lp
    unfold s__law_stood
    refine (seq_nx (asg_ev (own_ev (l := [lawD M w h st]) (ah1 := ah) (lst_ev (cons_ev rfl (nil_ev _ _)) (by simp))))).trans ?_
    exact (seq_nx ((for_ev (iAny_lst rfl)).trans lp)).trans (fr_ret rfl)
  exact (fn_rt rfl whole).trans (congrArg some (trim_app (lst_bd hF _ _) hb))
theorem enumD_get : ∀ {l : List D} {n k : Nat} {d : D}, (enumD n l)[k]? = some d → ∃ x, l[k]? = some x ∧ d = .tup [.int ((n + k : Nat) : Int), x] := fun h => enumD_at h
theorem ev_stand (hM : Nms M) (h1 : 1 ≤ w) (h2 : w ≤ 6) (h3 : 1 ≤ h) (h4 : h ≤ 6) {st : Str → Cell} {row : List Dd} (hr : ∀ d ∈ row, DOk M w h d) (hl : row.length ≤ 1000) {ah : AH} (hb : Bd ah) :
    f_standings_behind [stD M w h st, .lst (row.map (dD w h))] ah = some (.lst ((stands w h st row).map (stD M w h)), ah) := by
  have hF : ∀ n st, D.bd n (stD M w h st) = true := fun n st => stD_bd n M w h st
  obtain ⟨δ', ah', lp, rfl, x, y, rfl⟩ := forGo_inv (g := tgT (tgCons (tgN 3) (tgCons (tgN 4) tgNil))) (b := sExpr (eMut gAppend (eVar 2) (aCons (eCall f_done_at (aCons (eIx (eVar 2) (eNeg (eC (.int 1)))) (aCons (eVar 3) (aCons (eVar 4) aNil)))) aNil))) (I := fun dn δ ah' => ah' = ah ++ [.lst ((stands w h st (row.take dn.length)).map (stD M w h))] ∧ ∃ x y, δ = [some (stD M w h st), some (.lst (row.map (dD w h))), some (.ptr ah.length), x, y])
    (l := enumD 0 (row.map (dD w h))) (done := []) (δ := [some (stD M w h st), some (.lst (row.map (dD w h))), some (.ptr ah.length), none, none]) (ah := ah ++ [.lst [stD M w h st]]) ⟨rfl, none, none, rfl⟩ fun dn z r δ ah' es ⟨e, x, y, ed⟩ => by
      subst e ed
      obtain ⟨u, hu, rfl⟩ := enumD_get (mid_get es)
      rw [List.getElem?_map] at hu
      obtain ⟨d, hd, rfl⟩ := Option.map_eq_some_iff.mp hu
      have hk := (List.getElem?_eq_some_iff.mp hd).1
      have hle : (stands w h st (row.take dn.length)).length < 100000 := by rw [stands_len, List.length_take]; omega
      have hb' := lst_push hF hb (stands w h st (row.take dn.length))
      have at_ : ∀ i : Int, f_done_at [stD M w h (endS w h st (row.take dn.length)), .int i, dD w h d] (ah ++ [.lst ((stands w h st (row.take dn.length)).map (stD M w h))]) = some (stD M w h (eff w h d (endS w h st (row.take dn.length))), ah ++ [.lst ((stands w h st (row.take dn.length)).map (stD M w h))]) := fun i => by
        have hs : s_done_at [some (stD M w h (endS w h st (row.take dn.length))), some (.int i), some (dD w h d)] (ah ++ [.lst ((stands w h st (row.take dn.length)).map (stD M w h))]) = some (.rt (stD M w h (eff w h d (endS w h st (row.take dn.length)))), ah ++ [.lst ((stands w h st (row.take dn.length)).map (stD M w h))]) := by
          unfold s_done_at
          exact ret_ev ((smeth (M := M) (w := w) (h := h) (st := endS w h st (row.take dn.length)) rfl (by decide +kernel) (cons_ev (a := eVar 2) (d := dD w h d) rfl (nil_ev _ _))).trans (ev_done hM h1 h2 h3 h4 (hr d (List.mem_of_getElem? hd)) hb'))
        exact (fn_rt rfl hs).trans (by rw [trim_self])
      refine ⟨_, _, _, rfl, ptr_app (d := stD M w h (eff w h d (endS w h st (row.take dn.length)))) rfl ((call_ev (cons_ev (last_ev (k := 2) (F := stD M w h) rfl) (cons_ev (a := eVar 3) rfl (cons_ev (a := eVar 4) (d := dD w h d) rfl (nil_ev _ _))))).trans (at_ _)) (by rw [List.length_map]; exact hle), ?_, _, some (dD w h d), rfl⟩
      rw [List.length_append, List.length_singleton, take_succ hd, stands_snoc, List.map_append]
      rfl
  have whole : s_standings_behind [some (stD M w h st), some (.lst (row.map (dD w h))), none, none, none] ah = some (.rt (.lst ((stands w h st row).map (stD M w h))), ah ++ [.gone]) := by
    rw [List.nil_append, enumD_len, List.length_map, List.take_length] at lp
    unfold s_standings_behind
    refine (seq_nx (asg_ev (own_ev (l := [stD M w h st]) (ah1 := ah) (lst_ev (cons_ev rfl (nil_ev _ _)) (by simp))))).trans ?_
    exact (seq_nx ((for_ev (ah1 := ah ++ [.lst [stD M w h st]]) (by rfl)).trans lp)).trans (fr_ret rfl)
  exact (fn_rt rfl whole).trans (congrArg some (trim_app (lst_bd hF _ _) hb))
end
end K88

set_option linter.all false
set_option maxRecDepth 100000
namespace K88
open PySem L2 MM
/-! ### where faces are otherwise -/
abbrev Sts := Str → Cell
def gA (A : List Sts) (k : Nat) : Sts := A.getD k fun _ _ _ => false
theorem map_range {A : List Sts} {F : Sts → D} : A.map F = (List.range A.length).map fun k => F (gA A k) := by
  apply List.ext_getElem?
  intro i
  rw [List.getElem?_map, List.getElem?_map]
  by_cases hi : i < A.length
  · rw [List.getElem?_range hi, List.getElem?_eq_getElem hi]
    simp [gA, hi]
  · rw [List.getElem?_eq_none (by omega), List.getElem?_eq_none (by simp; omega)]
    rfl
theorem zip_range (a b : Nat) (f g : Nat → D) : zipD ((List.range a).map f) ((List.range b).map g) = (List.range (min a b)).map fun k => .tup [f k, g k] := by
  apply List.ext_getElem?
  intro i
  cases e : (zipD ((List.range a).map f) ((List.range b).map g))[i]? with
  | none =>
    have := List.getElem?_eq_none_iff.mp e
    rw [zipD_len, List.length_map, List.length_map, List.length_range, List.length_range] at this
    rw [List.getElem?_eq_none (by simp; omega)]
  | some d =>
    have hi := (List.getElem?_eq_some_iff.mp e).1
    rw [zipD_len, List.length_map, List.length_map, List.length_range, List.length_range] at hi
    obtain ⟨x, y, h1, h2, rfl⟩ := zipD_at e
    rw [List.getElem?_map, List.getElem?_range (by omega)] at h1 h2
    rw [List.getElem?_map, List.getElem?_range hi]
    simp only [Option.map_some, Option.some.injEq] at h1 h2
    rw [Option.map_some, h1, h2]
theorem enum_range (n : Nat) (f : Nat → D) : enumD 0 ((List.range n).map f) = (List.range n).map fun k => .tup [.int (k : Nat), f k] := by
  apply List.ext_getElem?
  intro i
  cases e : (enumD 0 ((List.range n).map f))[i]? with
  | none =>
    have := List.getElem?_eq_none_iff.mp e
    rw [enumD_len, List.length_map, List.length_range] at this
    rw [List.getElem?_eq_none (by simp; omega)]
  | some d =>
    have hi := (List.getElem?_eq_some_iff.mp e).1
    rw [enumD_len, List.length_map, List.length_range] at hi
    obtain ⟨x, h1, rfl⟩ := enumD_at e
    rw [List.getElem?_map, List.getElem?_range hi] at h1
    simp only [Option.map_some, Option.some.injEq] at h1
    rw [List.getElem?_map, List.getElem?_range hi, Option.map_some, h1, Nat.zero_add]
section
variable {M : List Str} {w h : Nat}
def tellK (M : List Str) (w h k : Nat) (a b : Sts) : List D := ((sortBy leS M).filter fun n => !decide (fD w h (a n) = fD w h (b n))).map fun n => .tup [.int (k : Nat), .str n]
def tells (M : List Str) (w h : Nat) (A B : List Sts) : List D := (List.range (min A.length B.length)).flatMap fun k => tellK M w h k (gA A k) (gA B k)
theorem sg_ok (b : Bool) : sg b < 0x110000 := by cases b <;> decide
theorem rowS_ok (w : Nat) (r : Nat → Bool) : PyData.strOk (rowS w r) = true := by
  unfold PyData.strOk
  rw [Array.all_eq_true']
  intro x hx
  have : x ∈ (rowS w r).cps.toList := by simpa using hx
  rw [rowS_cps] at this
  obtain ⟨k, _, rfl⟩ := List.mem_map.mp this
  exact decide_eq_true (sg_ok _)
theorem fD_pb (w h : Nat) (c : Cell) : pb 1 (fD w h c) = true := by
  show ((List.range h).map fun y => D.str (rowS w fun x => c x y)).all (pb 0) = true
  rw [List.all_map, List.all_eq_true]
  intro y _
  exact rowS_ok _ _
theorem ne_fD {a b : ME} {δ : DL} {ah ah1 ah2 : AH} {c e : Cell} (h1 : a δ ah = some (fD w h c, ah1)) (h2 : b δ ah1 = some (fD w h e, ah2)) : eBin gNe a b δ ah = some (.bl (!decide (fD w h c = fD w h e)), ah2) := by
  refine bin_ev h1 h2 ?_
  rw [gNe, dEq_pb (n := 1) (by decide) (fD_pb w h c) (fD_pb w h e)]
  rfl
theorem tellK_len (hM : Nms M) (k : Nat) (a b : Sts) : (tellK M w h k a b).length ≤ 6 := by
  rw [tellK, List.length_map]
  exact Nat.le_trans (List.length_filter_le _ _) hM.sort.hi
/-- the law's way -/
theorem ev_lother (hM : Nms M) {A B : List Sts} (hA : A.length ≤ 1000) {ah : AH} (hb : Bd ah) : f__law_otherwise [.lst (A.map (lawD M w h)), .lst (B.map (lawD M w h))] ah = some (.lst (tells M w h A B), ah) := by
  obtain ⟨δ', ⟨j1, j2, j3, j4⟩, hl⟩ := ext_loop (g := tgN 3) (k := 2) (e := eFrz (fComp (iAny (eFrz (f1 gSorted (eIx (eVar 0) (eVar 3))))) (tgN 4) (tOf (eBin gNe (eIx (eIx (eVar 0) (eVar 3)) (eVar 4)) (eIx (eIx (eVar 1) (eVar 3)) (eVar 4)))) (eTup (aCons (eVar 3) (aCons (eVar 4) aNil))) [4])) (i := fun k : Nat => D.int (k : Nat)) (F := fun k => tellK M w h k (gA A k) (gA B k)) (ah := ah)
    (J := fun δ => δ.length = 5 ∧ δ[0]? = some (some (.lst (A.map (lawD M w h)))) ∧ δ[1]? = some (some (.lst (B.map (lawD M w h)))) ∧ δ[2]? = some (some (.ptr ah.length))) (B := 6) (l := List.range (min A.length B.length)) (acc := []) (δ := [some (.lst (A.map (lawD M w h))), some (.lst (B.map (lawD M w h))), some (.ptr ah.length), none, none]) ⟨rfl, rfl, rfl, rfl⟩ (fun k _ => tellK_len hM k _ _) (by simp; omega) fun k hk δ ⟨j1, j2, j3, j4⟩ => by
      have hk' := List.mem_range.mp hk
      refine ⟨_, rfl, ⟨by simpa using j1, by rw [get_set_ne (by decide)]; exact j2, by rw [get_set_ne (by decide)]; exact j3, by rw [get_set_ne (by decide)]; exact j4⟩, by rw [get_set_ne (by decide)]; exact j4, fun ah1 => ?_⟩
      have ixl : ∀ {C : List Sts} {δ : DL} {m b : ME}, k < C.length → m δ ah1 = some (.lst (C.map (lawD M w h)), ah1) → b δ ah1 = some (.int (k : Nat), ah1) → eIx m b δ ah1 = some (lawD M w h (gA C k), ah1) := fun {C δ m b} hC h1 h2 => by
        refine bin_ev h1 h2 ?_
        show atI (C.map (lawD M w h)) (k : Nat) = _
        simp [atI, ixN, hC, gA]
      have v0 : eVar 0 (δ.set 3 (some (.int (k : Nat)))) ah1 = some (.lst (A.map (lawD M w h)), ah1) := var_ev (by rw [get_set_ne (by decide)]; exact j2)
      have v3 : eVar 3 (δ.set 3 (some (.int (k : Nat)))) ah1 = some (.int (k : Nat), ah1) := var_ev (get_set (by omega))
      have srt : iAny (eFrz (f1 gSorted (eIx (eVar 0) (eVar 3)))) (δ.set 3 (some (.int (k : Nat)))) ah1 = some ((sortBy leS M).map D.str, ah1) := by
        refine iAny_lst (frz_ev (f1_ev (ixl (by omega) v0 v3) ?_))
        show ((strsOf ((kvs M fun a => fD w h (gA A k a)).map fun kv => keyD kv.1)).bind fun xs => if xs.length < 64 then some ((sortBy leS xs).map D.str) else none) = _
        rw [keys_kvs, strsOf_map, Option.bind_some, if_pos (by have := hM.hi; omega)]
      have L : (wipeD (δ.set 3 (some (.int (k : Nat)))) [4]).length = 5 := by rw [wipe_len]; simpa using j1
      refine frz_ev ((comp_ev srt (by have := hM.sort.hi; rw [List.length_map]; omega)).trans ?_)
      refine compGo_filter (i := D.str) (f := fun n => .tup [.int (k : Nat), .str n]) fun n hn => ?_
      have hnM := sort_mem.mp hn
      have w0 : eVar 0 ((wipeD (δ.set 3 (some (.int (k : Nat)))) [4]).set 4 (some (.str n))) ah1 = some (.lst (A.map (lawD M w h)), ah1) := var_ev (by rw [get_set_ne (by decide), wipe_get_ne (by decide), get_set_ne (by decide)]; exact j2)
      have w1 : eVar 1 ((wipeD (δ.set 3 (some (.int (k : Nat)))) [4]).set 4 (some (.str n))) ah1 = some (.lst (B.map (lawD M w h)), ah1) := var_ev (by rw [get_set_ne (by decide), wipe_get_ne (by decide), get_set_ne (by decide)]; exact j3)
      have w3 : eVar 3 ((wipeD (δ.set 3 (some (.int (k : Nat)))) [4]).set 4 (some (.str n))) ah1 = some (.int (k : Nat), ah1) := var_ev (by rw [get_set_ne (by decide), wipe_get_ne (by decide)]; exact get_set (by omega))
      have w4 : eVar 4 ((wipeD (δ.set 3 (some (.int (k : Nat)))) [4]).set 4 (some (.str n))) ah1 = some (.str n, ah1) := var_ev (get_set (by rw [L]; decide))
      exact ⟨_, rfl, tof_ev (ne_fD (ix_dic (F := fun n => fD w h (gA A k n)) (ixl (by omega) w0 w3) w4 hnM) (ix_dic (F := fun n => fD w h (gA B k n)) (ixl (by omega) w1 w3) w4 hnM)), fun _ => tup_ev (cons_ev w3 (cons_ev w4 (nil_ev _ _))) (by simp)⟩
  have whole : s__law_otherwise [some (.lst (A.map (lawD M w h))), some (.lst (B.map (lawD M w h))), none, none, none] ah = some (.rt (.lst (tells M w h A B)), ah ++ [.gone]) := by
    rw [List.nil_append] at hl
    unfold s__law_otherwise
    refine (seq_nx (asg_ev (own_ev (l := []) (ah1 := ah) rfl))).trans ((seq_nx ((for_ev (ah1 := ah ++ [.lst []]) (rng1 (n := min A.length B.length) ?_ (by omega))).trans hl)).trans (fr_ret j4))
    refine bin_ev (len_lst rfl) (len_lst rfl) ?_
    show some (D.int (if ((B.map (lawD M w h)).length : Int) < ((A.map (lawD M w h)).length : Int) then _ else _)) = _
    rw [List.length_map, List.length_map]
    congr 2
    split <;> omega
  refine (fn_rt rfl whole).trans (congrArg some (trim_app ?_ hb))
  rw [D.bd]
  have bds : ∀ l : List D, (∀ d ∈ l, D.bd ah.length d = true) → D.bds ah.length l = true := fun l => by
    induction l with
    | nil => exact fun _ => rfl
    | cons a r ih =>
      intro hh
      rw [D.bds, hh a (by simp), ih fun d hd => hh d (by simp [hd])]
      rfl
  refine bds _ fun d hd => ?_
  obtain ⟨k, _, hd⟩ := List.mem_flatMap.mp hd
  obtain ⟨n, _, rfl⟩ := List.mem_map.mp hd
  rfl
/-- the program's way: a new list -/
theorem ev_other (hM : Nms M) {A B : List Sts} (hA : A.length ≤ 1000) (ah : AH) : f_otherwise [.lst (A.map (stD M w h)), .lst (B.map (stD M w h))] ah = some (.ptr ah.length, ah ++ [.lst (tells M w h A B)]) := by
  have step : ∀ (k : Nat) (δ : DL) (a b : Sts), δ.length = 9 → δ[2]? = some (some (.ptr ah.length)) → ∀ acc : List D, acc.length ≤ 90000 →
      (sSeq (sAsg (tgT (tgCons (tgN 6) (tgCons (tgN 7) tgNil))) (eTup (aCons (eMeth [("Stamps", f_Stamps_faces)] "faces" (eVar 4) aNil) (aCons (eMeth [("Stamps", f_Stamps_faces)] "faces" (eVar 5) aNil) aNil)))) (sExpr (eMut gExtend (eVar 2) (aCons (eFrz (fComp (iAny (eVar 6)) (tgN 8) (tOf (eBin gNe (eIx (eVar 6) (eVar 8)) (eIx (eVar 7) (eVar 8)))) (eTup (aCons (eVar 3) (aCons (eVar 8) aNil))) [8])) aNil)))) (((δ.set 3 (some (.int (k : Nat)))).set 4 (some (stD M w h a))).set 5 (some (stD M w h b))) (ah ++ [.lst acc]) =
        some (.nx (((((δ.set 3 (some (.int (k : Nat)))).set 4 (some (stD M w h a))).set 5 (some (stD M w h b))).set 6 (some (heldD M w h a))).set 7 (some (heldD M w h b))), ah ++ [.lst (acc ++ tellK M w h k a b)]) := fun k δ a b hl h2 acc hacc => by
    generalize hd : (((δ.set 3 (some (.int (k : Nat)))).set 4 (some (stD M w h a))).set 5 (some (stD M w h b))) = δ5
    have l5 : δ5.length = 9 := by rw [← hd]; simpa using hl
    have d3 : δ5[3]? = some (some (.int (k : Nat))) := by rw [← hd, get_set_ne (by decide), get_set_ne (by decide)]; exact get_set (by omega)
    have d4 : δ5[4]? = some (some (stD M w h a)) := by rw [← hd, get_set_ne (by decide)]; exact get_set (by simp [hl])
    have d5 : δ5[5]? = some (some (stD M w h b)) := by rw [← hd]; exact get_set (by simp [hl])
    have d2 : δ5[2]? = some (some (.ptr ah.length)) := by rw [← hd, get_set_ne (by decide), get_set_ne (by decide), get_set_ne (by decide)]; exact h2
    have f4 := (smeth (M := M) (w := w) (h := h) (st := a) (m := "faces") (mf := f_Stamps_faces) (var_ev (ah := ah ++ [.lst acc]) d4) (by decide +kernel) (nil_ev _ _)).trans (ev_sfaces _)
    have f5 := (smeth (M := M) (w := w) (h := h) (st := b) (m := "faces") (mf := f_Stamps_faces) (var_ev (ah := ah ++ [.lst acc]) d5) (by decide +kernel) (nil_ev _ _)).trans (ev_sfaces _)
    have tt := tup_ev (cons_ev f4 (cons_ev f5 (nil_ev _ _))) (by simp)
    have pair : sAsg (tgT (tgCons (tgN 6) (tgCons (tgN 7) tgNil))) (eTup (aCons (eMeth [("Stamps", f_Stamps_faces)] "faces" (eVar 4) aNil) (aCons (eMeth [("Stamps", f_Stamps_faces)] "faces" (eVar 5) aNil) aNil))) δ5 (ah ++ [.lst acc]) = some (.nx ((δ5.set 6 (some (heldD M w h a))).set 7 (some (heldD M w h b))), ah ++ [.lst acc]) := by
      unfold sAsg
      rw [tt]
      rfl
    refine (seq_nx pair).trans (exp_ev (ext_ev (by rw [get_set_ne (by decide), get_set_ne (by decide)]; exact d2) ?_ (by have := tellK_len (w := w) (h := h) hM k a b; omega)))
    generalize hd7 : ((δ5.set 6 (some (heldD M w h a))).set 7 (some (heldD M w h b))) = δ7
    have l7 : δ7.length = 9 := by rw [← hd7]; simpa using l5
    have it : iAny (eVar 6) δ7 (ah ++ [.lst acc]) = some ((sortBy leS M).map D.str, ah ++ [.lst acc]) := by
      rw [← keys_kvs (sortBy leS M) fun n => fD w h (a n)]
      exact iAny_dic (var_ev (by rw [← hd7, get_set_ne (by decide)]; exact get_set (by omega)))
    refine frz_ev ((comp_ev it (by have := hM.sort.hi; rw [List.length_map]; omega)).trans ?_)
    refine compGo_filter (i := D.str) (f := fun n => .tup [.int (k : Nat), .str n]) fun n hn => ?_
    have lw : (wipeD δ7 [8]).length = 9 := by rw [wipe_len]; exact l7
    have w6 : eVar 6 ((wipeD δ7 [8]).set 8 (some (.str n))) (ah ++ [.lst acc]) = some (heldD M w h a, ah ++ [.lst acc]) := var_ev (by rw [get_set_ne (by decide), wipe_get_ne (by decide), ← hd7, get_set_ne (by decide)]; exact get_set (by omega))
    have w7 : eVar 7 ((wipeD δ7 [8]).set 8 (some (.str n))) (ah ++ [.lst acc]) = some (heldD M w h b, ah ++ [.lst acc]) := var_ev (by rw [get_set_ne (by decide), wipe_get_ne (by decide), ← hd7]; exact get_set (by simp [l5]))
    have w3 : eVar 3 ((wipeD δ7 [8]).set 8 (some (.str n))) (ah ++ [.lst acc]) = some (.int (k : Nat), ah ++ [.lst acc]) := var_ev (by rw [get_set_ne (by decide), wipe_get_ne (by decide), ← hd7, get_set_ne (by decide), get_set_ne (by decide)]; exact d3)
    have w8 : eVar 8 ((wipeD δ7 [8]).set 8 (some (.str n))) (ah ++ [.lst acc]) = some (.str n, ah ++ [.lst acc]) := var_ev (get_set (by rw [lw]; decide))
    exact ⟨_, rfl, tof_ev (ne_fD (ix_dic (F := fun n => fD w h (a n)) w6 w8 hn) (ix_dic (F := fun n => fD w h (b n)) w7 w8 hn)), fun _ => tup_ev (cons_ev w3 (cons_ev w8 (nil_ev _ _))) (by simp)⟩
  have items : enumD 0 (zipD (A.map (stD M w h)) (B.map (stD M w h))) = (List.range (min A.length B.length)).map fun k => .tup [.int (k : Nat), .tup [stD M w h (gA A k), stD M w h (gA B k)]] := by
    rw [map_range (A := A), map_range (A := B), zip_range, enum_range]
  obtain ⟨δ', ah', lp, e, hj⟩ := forGo_inv (g := tgT (tgCons (tgN 3) (tgCons (tgT (tgCons (tgN 4) (tgCons (tgN 5) tgNil))) tgNil))) (b := sSeq (sAsg (tgT (tgCons (tgN 6) (tgCons (tgN 7) tgNil))) (eTup (aCons (eMeth [("Stamps", f_Stamps_faces)] "faces" (eVar 4) aNil) (aCons (eMeth [("Stamps", f_Stamps_faces)] "faces" (eVar 5) aNil) aNil)))) (sExpr (eMut gExtend (eVar 2) (aCons (eFrz (fComp (iAny (eVar 6)) (tgN 8) (tOf (eBin gNe (eIx (eVar 6) (eVar 8)) (eIx (eVar 7) (eVar 8)))) (eTup (aCons (eVar 3) (aCons (eVar 8) aNil))) [8])) aNil))))
    (I := fun dn δ ah' => ah' = ah ++ [.lst ((List.range dn.length).flatMap fun k => tellK M w h k (gA A k) (gA B k))] ∧ δ.length = 9 ∧ δ[2]? = some (some (.ptr ah.length))) (l := (List.range (min A.length B.length)).map fun k => .tup [.int (k : Nat), .tup [stD M w h (gA A k), stD M w h (gA B k)]]) (done := []) (δ := [some (.lst (A.map (stD M w h))), some (.lst (B.map (stD M w h))), some (.ptr ah.length), none, none, none, none, none, none]) (ah := ah ++ [.lst []]) ⟨rfl, rfl, rfl⟩
    fun dn z r δ ah' es ⟨e, j1, j2⟩ => by
      subst e
      have hz := mid_get es
      have hlt : dn.length < min A.length B.length := by
        have := (List.getElem?_eq_some_iff.mp hz).1
        simpa using this
      rw [List.getElem?_map, List.getElem?_range hlt] at hz
      cases hz
      refine ⟨_, _, _, rfl, step dn.length δ _ _ j1 j2 _ ?_, ?_, by simpa using j1, ?_⟩
      · have := flat_len (B := 6) (fun k => tellK M w h k (gA A k) (gA B k)) (l := List.range dn.length) fun k _ => tellK_len hM k _ _
        rw [List.length_range] at this
        omega
      · rw [List.length_append, List.length_singleton, List.range_succ, List.flatMap_append]
        simp
      · rw [get_set_ne (by decide), get_set_ne (by decide), get_set_ne (by decide), get_set_ne (by decide), get_set_ne (by decide)]
        exact j2
  have whole : s_otherwise [some (.lst (A.map (stD M w h))), some (.lst (B.map (stD M w h))), none, none, none, none, none, none, none] ah = some (.rt (.ptr ah.length), ah ++ [.lst (tells M w h A B)]) := by
    subst e
    rw [List.nil_append, List.length_map, List.length_range] at lp
    unfold s_otherwise
    refine (seq_nx (asg_ev (own_ev (l := []) (ah1 := ah) rfl))).trans ((seq_nx ((for_ev (ah1 := ah ++ [.lst []]) ?_).trans lp)).trans (ret_ev (var_ev hj.2)))
    rw [← items]
    rfl
  refine (fn_rt rfl whole).trans (congrArg some ?_)
  unfold trim
  rw [if_neg]
  simp [D.bd]
end
end K88

set_option linter.all false
set_option maxRecDepth 100000
namespace K88
open PySem L2 MM
/-! ### slices of lists -/
theorem sl_take {m a : ME} {δ : DL} {ah ah1 ah2 : AH} {l : List D} {i : Nat} (h : m δ ah = some (.lst l, ah1)) (ha : a δ ah1 = some (.int (i : Nat), ah2)) : eSl m oNone (oSome a) δ ah = some (.lst (l.take i), ah2) := by
  have e1 : eSlice m oNone (oSome a) δ ah = none := by simp [eSlice, oNone, oSome, h, ha]
  have e2 : fSlice m oNone (oSome a) δ ah = some (l.take i, ah2) := by
    simp only [fSlice, oNone, oSome, h, ha, Option.bind_some, asR, Option.map_some]
    unfold cutL
    rw [HT.sIx_none, HT.sIx_nat, List.drop_zero, Nat.sub_zero]
    congr 2
    rw [← List.take_take, List.take_length]
  unfold eSl orE
  rw [e1]
  exact frz_ev e2
theorem sl_drop {m a : ME} {δ : DL} {ah ah1 ah2 : AH} {l : List D} {i : Nat} (h : m δ ah = some (.lst l, ah1)) (ha : a δ ah1 = some (.int (i : Nat), ah2)) : eSl m (oSome a) oNone δ ah = some (.lst (l.drop i), ah2) := by
  have e1 : eSlice m (oSome a) oNone δ ah = none := by simp [eSlice, oNone, oSome, h, ha]
  have e2 : fSlice m (oSome a) oNone δ ah = some (l.drop i, ah2) := by
    simp only [fSlice, oNone, oSome, h, ha, Option.bind_some, asR, Option.map_some]
    unfold cutL
    rw [HT.sIx_none, HT.sIx_nat]
    congr 2
    by_cases hi : i ≤ l.length
    · rw [Nat.min_eq_left hi, List.take_of_length_le (by rw [List.length_drop]; exact Nat.le_refl _)]
    · rw [Nat.min_eq_right (by omega), List.drop_length, List.drop_of_length_le (by omega), List.take_nil]
  unfold eSl orE
  rw [e1]
  exact frz_ev e2
theorem add_lst {a b : ME} {δ : DL} {ah ah1 ah2 : AH} {l m : List D} (h1 : a δ ah = some (.lst l, ah1)) (h2 : b δ ah1 = some (.lst m, ah2)) (hl : l.length + m.length ≤ 100000) : eBin gAdd a b δ ah = some (.lst (l ++ m), ah2) := by
  refine bin_ev h1 h2 ?_
  show (some l).bind (fun l => (some m).bind fun m => if l.length + m.length ≤ 100000 then some (D.lst (l ++ m)) else none) = _
  simp [hl]
theorem ix_lst {m b : ME} {δ : DL} {ah ah1 ah2 : AH} {l : List D} {i : Nat} {d : D} (h : m δ ah = some (.lst l, ah1)) (hb : b δ ah1 = some (.int (i : Nat), ah2)) (e : l[i]? = some d) : eIx m b δ ah = some (d, ah2) := by
  refine bin_ev h hb ?_
  have hi := (List.getElem?_eq_some_iff.mp e).1
  show atI l (i : Nat) = _
  simp only [atI, ixN]
  rw [if_pos (by omega), if_pos (by omega), Option.bind_some, Int.toNat_natCast, e]
/-! ### deeds by their data -/
section
variable {M : List Str} {w h : Nat}
theorem sg_inj {a b : Bool} (e : sg a = sg b) : a = b := by cases a <;> cases b <;> first | rfl | cases e
theorem fD_inj {c e : Cell} (q : fD w h c = fD w h e) {x y : Nat} (hx : x < w) (hy : y < h) : c x y = e x y := by
  unfold fD at q
  have q1 := D.tup.inj q
  have q2 : ((List.range h).map fun y => D.str (rowS w fun x => c x y))[y]? = ((List.range h).map fun y => D.str (rowS w fun x => e x y))[y]? := by rw [q1]
  simp only [List.getElem?_map, List.getElem?_range hy, Option.map_some, Option.some.injEq, D.str.injEq] at q2
  have q3 : (rowS w fun x => c x y).cps.toList[x]? = (rowS w fun x => e x y).cps.toList[x]? := by rw [q2]
  rw [rowS_get hx, rowS_get hx] at q3
  exact sg_inj (Option.some.inj q3)
theorem dD_inj {a b : Dd} (ha : DOk M w h a) (hb : DOk M w h b) (e : dD w h a = dD w h b) : a = b := by
  have s1 : ¬ (("press" : Str) = "turn") := by decide +kernel
  have s2 : ¬ (("press" : Str) = "cut") := by decide +kernel
  have s3 : ¬ (("turn" : Str) = "cut") := by decide +kernel
  cases a <;> cases b <;> simp only [dD, D.tup.injEq, List.cons.injEq, D.str.injEq, and_true, reduceCtorEq, and_false] at e
  all_goals first | exact absurd e.1 s1 | exact absurd e.1.symm s1 | exact absurd e.1 s2 | exact absurd e.1.symm s2 | exact absurd e.1 s3 | exact absurd e.1.symm s3 | skip
  · rename_i a b a' b'
    rw [e.2.1, e.2.2]
  · rename_i a q a' q'
    have : q = q' := by
      have := congrArg (fun z : Str => z.cps.toList) e.2.2
      simp [tz] at this
      exact this
    rw [e.2.1, this]
  · rename_i a c a' c'
    have : c = c' := funext fun x => funext fun y => by
      by_cases hxy : x < w ∧ y < h
      · exact fD_inj e.2.2 hxy.1 hxy.2
      · rw [ha.2 x y hxy, hb.2 x y hxy]
    rw [e.2.1, this]
  · rw [e.2]
theorem name_ok {n : Str} (hn : nameB n = true) : PyData.strOk n = true := by
  unfold nameB at hn
  simp only [Bool.and_eq_true] at hn
  unfold PyData.strOk
  rw [Array.all_eq_true']
  intro x hx
  have hx' : x ∈ n.cps.toList := by simpa using hx
  have := List.all_eq_true.mp hn.2 x hx'
  have all : ("abcdefghijklmnopqrstuvwxyz" : Str).cps.toList.all (fun c => decide (c < 0x110000)) = true := by decide +kernel
  exact List.all_eq_true.mp all x (of_decide_eq_true this)
theorem dD_pb (hM : Nms M) {d : Dd} (hd : DOk M w h d) : pb 2 (dD w h d) = true := by
  have nm : ∀ n ∈ M, pb 1 (.str n) = true := fun n hn => name_ok (hM.ok n hn)
  cases d with
  | press a b =>
    show ([.str "press", .str a, .str b] : List D).all (pb 1) = true
    simp only [List.all_cons, List.all_nil, nm a hd.1, nm b hd.2.1]
    decide +kernel
  | turn a q =>
    show ([.str "turn", .str a, .str (tz false q)] : List D).all (pb 1) = true
    have : pb 1 (.str (tz false q)) = true := by
      have h1 : q ≤ 3 := hd.2.2.1
      show PyData.strOk (tz false q) = true
      unfold PyData.strOk tz
      simp
      omega
    simp only [List.all_cons, List.all_nil, nm a hd.1, this]
    decide +kernel
  | cut a c =>
    show ([.str "cut", .str a, fD w h c] : List D).all (pb 1) = true
    simp only [List.all_cons, List.all_nil, nm a hd.1, fD_pb]
    decide +kernel
  | print a =>
    show ([.str "print", .str a] : List D).all (pb 1) = true
    simp only [List.all_cons, List.all_nil, nm a hd]
    decide +kernel
/-! ### rows with a common beginning -/
theorem stands_take : ∀ (i : Nat) (st : Sts) (r r' : List Dd), i ≤ r.length → i ≤ r'.length → r.take i = r'.take i → (stands w h st r).take (i + 1) = (stands w h st r').take (i + 1)
  | 0, st, r, r', _, _, _ => by cases r <;> cases r' <;> rfl
  | i + 1, st, [], _, h1, _, _ => by simp at h1
  | i + 1, st, _ :: _, [], _, h2, _ => by simp at h2
  | i + 1, st, d :: r, d' :: r', h1, h2, e => by
    simp only [List.take_succ_cons, List.cons.injEq] at e
    obtain ⟨rfl, e⟩ := e
    rw [stands, stands, List.take_succ_cons, List.take_succ_cons, stands_take i _ r r' (by simpa using h1) (by simpa using h2) e]
theorem stands_split : ∀ (i : Nat) (st : Sts) (r : List Dd), i ≤ r.length → stands w h st r = (stands w h st r).take i ++ stands w h (gA (stands w h st r) i) (r.drop i)
  | 0, st, r, _ => by cases r <;> simp [stands, gA]
  | i + 1, st, [], h1 => by simp at h1
  | i + 1, st, d :: r, h1 => by
    have := stands_split i (eff w h d st) r (by simpa using h1)
    rw [stands, List.take_succ_cons, List.drop_succ_cons, List.cons_append]
    congr 1
theorem stands_gA {i : Nat} {st : Sts} {r : List Dd} (hi : i ≤ r.length) : (stands w h st r)[i]? = some (gA (stands w h st r) i) := by
  have : i < (stands w h st r).length := by rw [stands_len]; omega
  simp [gA, this]
/-- the book's object -/
def bookF (M : List Str) (w h : Nat) (st : Sts) (row : List Dd) (p u : Nat) : List (Str × D) := [("begun", stD M w h st), ("deeds", .lst (row.map (dD w h))), ("stood", .lst ((stands w h st row).map (stD M w h))), ("past", .ptr p), ("undone_rows", .ptr u)]
def bookO (M : List Str) (w h : Nat) (st : Sts) (row : List Dd) (p u : Nat) : AO := .ins "Book" (bookF M w h st row p u)
section
variable {st : Sts} {row : List Dd} {p u k : Nat} {ah ah1 : AH} {mo : ME} {δ : DL}
theorem book_asI (hk : ah[k]? = some (bookO M w h st row p u)) : asI ah (.ptr k) = some (("Book" : Str), bookF M w h st row p u) := by simp [asI, hk, bookO]
theorem lk_begun : (bookF M w h st row p u).lookup ("begun" : Str) = some (stD M w h st) := by simp [bookF]
theorem lk_deeds : (bookF M w h st row p u).lookup ("deeds" : Str) = some (.lst (row.map (dD w h))) := by
  have : (("deeds" : Str) == "begun") = false := by decide +kernel
  simp [bookF, List.lookup_cons, this]
theorem lk_stood : (bookF M w h st row p u).lookup ("stood" : Str) = some (.lst ((stands w h st row).map (stD M w h))) := by
  have a : (("stood" : Str) == "begun") = false := by decide +kernel
  have b : (("stood" : Str) == "deeds") = false := by decide +kernel
  simp [bookF, List.lookup_cons, a, b]
theorem lk_past : (bookF M w h st row p u).lookup ("past" : Str) = some (.ptr p) := by
  have a : (("past" : Str) == "begun") = false := by decide +kernel
  have b : (("past" : Str) == "deeds") = false := by decide +kernel
  have c : (("past" : Str) == "stood") = false := by decide +kernel
  simp [bookF, List.lookup_cons, a, b, c]
theorem lk_undone : (bookF M w h st row p u).lookup ("undone_rows" : Str) = some (.ptr u) := by
  have a : (("undone_rows" : Str) == "begun") = false := by decide +kernel
  have b : (("undone_rows" : Str) == "deeds") = false := by decide +kernel
  have c : (("undone_rows" : Str) == "stood") = false := by decide +kernel
  have d : (("undone_rows" : Str) == "past") = false := by decide +kernel
  simp [bookF, List.lookup_cons, a, b, c, d]
theorem lk_no {m : Str} (a : (m == "begun") = false) (b : (m == "deeds") = false) (c : (m == "stood") = false) (d : (m == "past") = false) (e : (m == "undone_rows") = false) : (bookF M w h st row p u).lookup m = none := by
  simp [bookF, List.lookup_cons, a, b, c, d, e]
theorem bfld {f : Str} {e : D} (h1 : mo δ ah = some (.ptr k, ah1)) (hk : ah1[k]? = some (bookO M w h st row p u)) (hf : (bookF M w h st row p u).lookup f = some e) : eFld ["Book"] f mo δ ah = some (e, ah1) := fld_ev h1 (book_asI hk) hf
theorem bmeth {m : Str} {mf : MF} {ma : MA} {ah2 : AH} {ds : List D} (h1 : mo δ ah = some (.ptr k, ah1)) (hk : ah1[k]? = some (bookO M w h st row p u)) (hf : (bookF M w h st row p u).lookup m = none) (ha : ma δ ah1 = some (ds, ah2)) : eMeth [("Book", mf)] m mo ma δ ah = mf (.ptr k :: ds) ah2 := meth_ev h1 (book_asI hk) hf ha
theorem ev_length (hk : ah[k]? = some (bookO M w h st row p u)) : f_Book_length [.ptr k] ah = some (.int row.length, ah) := by
  have hs : s_Book_length [some (.ptr k)] ah = some (.rt (.int row.length), ah) := by
    unfold s_Book_length
    have := len_lst (bfld (mo := eVar 0) (δ := [some (.ptr k)]) rfl hk lk_deeds)
    rw [List.length_map] at this
    exact ret_ev this
  exact (fn_rt rfl hs).trans (by rw [trim_self])
end
end
end K88

set_option linter.all false
set_option maxRecDepth 100000
namespace K88
open PySem L2 MM
section
variable {M : List Str} {w h : Nat} {st : Sts} {row row' : List Dd} {p u k : Nat} {ah : AH}
theorem add_int {a b : ME} {δ : DL} {ah ah1 ah2 : AH} {i j : Int} (h1 : a δ ah = some (.int i, ah1)) (h2 : b δ ah1 = some (.int j, ah2)) : eBin gAdd a b δ ah = some (.int (i + j), ah2) := bin_ev h1 h2 rfl
def sameC : MT := tAndM (tOf (eBin gLt (eVar 2) (eBin gMin (e1 gLen (eVar 1)) (eMeth [("Book", f_Book_length)] "length" (eVar 0) aNil)))) (tOf (eBin gEq (eIx (eVar 1) (eVar 2)) (eIx (eFld ["Book"] "deeds" (eVar 0)) (eVar 2))))
theorem len_no : (bookF M w h st row p u).lookup ("length" : Str) = none := lk_no (by decide +kernel) (by decide +kernel) (by decide +kernel) (by decide +kernel) (by decide +kernel)
theorem same_go (hM : Nms M) (hr : ∀ d ∈ row, DOk M w h d) (hr' : ∀ d ∈ row', DOk M w h d) (hk : ah[k]? = some (bookO M w h st row p u)) : ∀ (m fuel i : Nat), min row'.length row.length - i = m → m < fuel → i ≤ min row'.length row.length → row'.take i = row.take i →
    ∃ j, j ≤ row'.length ∧ j ≤ row.length ∧ row'.take j = row.take j ∧ whGo sameC (sAsg (tgN 2) (eBin gAdd (eVar 2) (eC (.int 1)))) fuel [some (.ptr k), some (.lst (row'.map (dD w h))), some (.int (i : Nat))] ah = some (.nx [some (.ptr k), some (.lst (row'.map (dD w h))), some (.int (j : Nat))], ah) := by
  intro m
  induction m with
  | zero =>
    intro fuel i e hf hi ht
    obtain ⟨fuel, rfl⟩ : ∃ n, fuel = n + 1 := ⟨fuel - 1, by omega⟩
    refine ⟨i, by omega, by omega, ht, ?_⟩
    have ln := (bmeth (mf := f_Book_length) (mo := eVar 0) (δ := [some (.ptr k), some (.lst (row'.map (dD w h))), some (.int (i : Nat))]) rfl hk (len_no (st := st)) (nil_ev _ _)).trans (ev_length hk)
    have l1 := len_lst (m := eVar 1) (δ := [some (.ptr k), some (.lst (row'.map (dD w h))), some (.int (i : Nat))]) (ah := ah) rfl
    rw [List.length_map] at l1
    have c : sameC [some (.ptr k), some (.lst (row'.map (dD w h))), some (.int (i : Nat))] ah = some (false, ah) := by
      refine tand_f (tof_ev (bin_ev (x := .int (i : Nat)) rfl (bin_ev l1 ln rfl) ?_))
      show some (D.bl (decide ((i : Int) < if ((row.length : Nat) : Int) < ((row'.length : Nat) : Int) then ((row.length : Nat) : Int) else ((row'.length : Nat) : Int)))) = _
      rw [decide_eq_false]
      split <;> omega
    unfold whGo
    rw [c]
    rfl
  | succ m ih =>
    intro fuel i e hf hi ht
    obtain ⟨fuel, rfl⟩ : ∃ n, fuel = n + 1 := ⟨fuel - 1, by omega⟩
    have ln := (bmeth (mf := f_Book_length) (mo := eVar 0) (δ := [some (.ptr k), some (.lst (row'.map (dD w h))), some (.int (i : Nat))]) rfl hk (len_no (st := st)) (nil_ev _ _)).trans (ev_length hk)
    have l1 := len_lst (m := eVar 1) (δ := [some (.ptr k), some (.lst (row'.map (dD w h))), some (.int (i : Nat))]) (ah := ah) rfl
    rw [List.length_map] at l1
    have i1 : i < row'.length := by omega
    have i2 : i < row.length := by omega
    have g1 : (row'.map (dD w h))[i]? = some (dD w h row'[i]) := by simp [i1]
    have g2 : (row.map (dD w h))[i]? = some (dD w h row[i]) := by simp [i2]
    have t1 : tOf (eBin gLt (eVar 2) (eBin gMin (e1 gLen (eVar 1)) (eMeth [("Book", f_Book_length)] "length" (eVar 0) aNil))) [some (.ptr k), some (.lst (row'.map (dD w h))), some (.int (i : Nat))] ah = some (true, ah) := by
      refine tof_ev (bin_ev (x := .int (i : Nat)) rfl (bin_ev l1 ln rfl) ?_)
      show some (D.bl (decide ((i : Int) < if ((row.length : Nat) : Int) < ((row'.length : Nat) : Int) then ((row.length : Nat) : Int) else ((row'.length : Nat) : Int)))) = _
      rw [decide_eq_true]
      split <;> omega
    have t2 : tOf (eBin gEq (eIx (eVar 1) (eVar 2)) (eIx (eFld ["Book"] "deeds" (eVar 0)) (eVar 2))) [some (.ptr k), some (.lst (row'.map (dD w h))), some (.int (i : Nat))] ah = some (decide (dD w h row'[i] = dD w h row[i]), ah) := by
      refine tof_ev (bin_ev (ix_lst (i := i) rfl rfl g1) (ix_lst (i := i) (bfld rfl hk lk_deeds) rfl g2) ?_)
      rw [gEq, dEq_pb (n := 2) (by decide) (dD_pb hM (hr' _ (List.getElem_mem i1))) (dD_pb hM (hr _ (List.getElem_mem i2)))]
      rfl
    have c : sameC [some (.ptr k), some (.lst (row'.map (dD w h))), some (.int (i : Nat))] ah = some (decide (dD w h row'[i] = dD w h row[i]), ah) := (tand_t t1).trans t2
    by_cases eq : dD w h row'[i] = dD w h row[i]
    · have eq' := dD_inj (hr' _ (List.getElem_mem i1)) (hr _ (List.getElem_mem i2)) eq
      obtain ⟨j, j1, j2, j3, j4⟩ := ih fuel (i + 1) (by omega) (by omega) (by omega) (by rw [take_succ (List.getElem?_eq_getElem i1), take_succ (List.getElem?_eq_getElem i2), ht, eq'])
      refine ⟨j, j1, j2, j3, ?_⟩
      unfold whGo
      rw [c, decide_eq_true eq]
      have b1 := asg_ev (i := 2) (add_int (a := eVar 2) (b := eC (.int 1)) (δ := [some (.ptr k), some (.lst (row'.map (dD w h))), some (.int (i : Nat))]) (ah := ah) (i := (i : Nat)) rfl rfl)
      rw [Option.bind_some, if_pos rfl, b1]
      exact j4
    · refine ⟨i, by omega, by omega, ht, ?_⟩
      unfold whGo
      rw [c, decide_eq_false eq]
      rfl
theorem ev_stood_by (hM : Nms M) (h1 : 1 ≤ w) (h2 : w ≤ 6) (h3 : 1 ≤ h) (h4 : h ≤ 6) (hr : ∀ d ∈ row, DOk M w h d) (hr' : ∀ d ∈ row', DOk M w h d) (hl : row.length ≤ 1000) (hl' : row'.length ≤ 1000) (hb : Bd ah) (hk : ah[k]? = some (bookO M w h st row p u)) :
    f_Book_stood_by [.ptr k, .lst (row'.map (dD w h))] ah = some (.lst ((stands w h st row').map (stD M w h)), ah) := by
  obtain ⟨j, j1, j2, j3, lp⟩ := same_go hM hr hr' hk (min row'.length row.length - 0) 100000 0 rfl (by omega) (by omega) rfl
  have tk := stands_take (w := w) (h := h) j st row' row j1 j2 j3
  have e1 : (stands w h st row).take j = (stands w h st row').take j := by
    have := congrArg (List.take j) tk
    rw [List.take_take, List.take_take, Nat.min_eq_left (Nat.le_succ _)] at this
    exact this.symm
  have e2 : gA (stands w h st row) j = gA (stands w h st row') j := by
    have := congrArg (fun l => l[j]?) tk
    simp only [List.getElem?_take, if_pos (Nat.lt_succ_self j)] at this
    rw [stands_gA j1, stands_gA j2] at this
    exact (Option.some.inj this).symm
  have g : ((stands w h st row).map (stD M w h))[j]? = some (stD M w h (gA (stands w h st row) j)) := by rw [List.getElem?_map, stands_gA j2]; rfl
  have whole : s_Book_stood_by [some (.ptr k), some (.lst (row'.map (dD w h))), none] ah = some (.rt (.lst ((stands w h st row').map (stD M w h))), ah) := by
    unfold s_Book_stood_by
    refine (seq_nx (asg_ev rfl)).trans ((seq_nx lp).trans (ret_ev ?_))
    have dr : eSl (eVar 1) (oSome (eVar 2)) oNone [some (.ptr k), some (.lst (row'.map (dD w h))), some (.int (j : Nat))] ah = some (.lst ((row'.drop j).map (dD w h)), ah) := by
      rw [List.map_drop]
      exact sl_drop (i := j) rfl rfl
    have sb := (call_ev (cons_ev (ix_lst (i := j) (b := eVar 2) (bfld (mo := eVar 0) (δ := [some (.ptr k), some (.lst (row'.map (dD w h))), some (.int (j : Nat))]) rfl hk lk_stood) rfl g) (cons_ev dr (nil_ev _ _)))).trans (ev_stand hM h1 h2 h3 h4 (st := gA (stands w h st row) j) (row := row'.drop j) (fun d hd => hr' d (List.mem_of_mem_drop hd)) (by rw [List.length_drop]; omega) hb)
    refine (add_lst (sl_take (i := j) (bfld rfl hk lk_stood) rfl) sb ?_).trans ?_
    · rw [List.length_take, List.length_map, List.length_map, stands_len, stands_len, List.length_drop]
      omega
    · rw [← List.map_take, ← List.map_append, e1, e2, ← stands_split j st row' j1]
  exact (fn_rt rfl whole).trans (by rw [trim_self])
/-! ### the book becomes another -/
def bk (b d s p u : D) : List (Str × D) := [("begun", b), ("deeds", d), ("stood", s), ("past", p), ("undone_rows", u)]
theorem set_deeds (b d s p u x : D) : MM.setAttr "deeds" x (bk b d s p u) = bk b x s p u := by
  have e1 : ¬ (("begun" : Str) = "deeds") := by decide +kernel
  simp [bk, MM.setAttr, e1]
theorem set_stood (b d s p u x : D) : MM.setAttr "stood" x (bk b d s p u) = bk b d x p u := by
  have e1 : ¬ (("begun" : Str) = "stood") := by decide +kernel
  have e2 : ¬ (("deeds" : Str) = "stood") := by decide +kernel
  simp [bk, MM.setAttr, e1, e2]
theorem set_past (b d s p u x : D) : MM.setAttr "past" x (bk b d s p u) = bk b d s x u := by
  have e1 : ¬ (("begun" : Str) = "past") := by decide +kernel
  have e2 : ¬ (("deeds" : Str) = "past") := by decide +kernel
  have e3 : ¬ (("stood" : Str) = "past") := by decide +kernel
  simp [bk, MM.setAttr, e1, e2, e3]
theorem set_undone (b d s p u x : D) : MM.setAttr "undone_rows" x (bk b d s p u) = bk b d s p x := by
  have e1 : ¬ (("begun" : Str) = "undone_rows") := by decide +kernel
  have e2 : ¬ (("deeds" : Str) = "undone_rows") := by decide +kernel
  have e3 : ¬ (("stood" : Str) = "undone_rows") := by decide +kernel
  have e4 : ¬ (("past" : Str) = "undone_rows") := by decide +kernel
  simp [bk, MM.setAttr, e1, e2, e3, e4]
theorem fldM_ev {f : Str} {mo mv : ME} {δ : DL} {ah ah1 ah2 : AH} {d b dd s p u : D} {k : Nat} {l' : List (Str × D)} (hv : mv δ ah = some (d, ah1)) (ho : mo δ ah1 = some (.ptr k, ah2)) (hk : ah2[k]? = some (.ins "Book" (bk b dd s p u))) (hs : MM.setAttr f d (bk b dd s p u) = l') : sFldM ["Book"] f mo mv δ ah = some (.nx δ, ah2.set k (.ins "Book" l')) := by
  unfold sFldM
  rw [hv, Option.bind_some, ho, Option.bind_some]
  have : insAt ah2 k = some (("Book" : Str), bk b dd s p u) := by simp [insAt, hk]
  simp only [this, Option.bind_some, List.mem_singleton, hs]
  rw [if_pos ⟨trivial, by show (5 : Nat) < 100; decide⟩]
/-- what stands at the places that are not named stays -/
def Fr (ah ah' : AH) (ks : List Nat) : Prop := ah.length ≤ ah'.length ∧ ∀ i, i < ah.length → i ∉ ks → ah'[i]? = ah[i]?
theorem Fr.refl (ah : AH) (ks : List Nat) : Fr ah ah ks := ⟨Nat.le_refl _, fun _ _ _ => rfl⟩
theorem Fr.trans {a b c : AH} {ks : List Nat} (h1 : Fr a b ks) (h2 : Fr b c ks) : Fr a c ks := ⟨Nat.le_trans h1.1 h2.1, fun i hi hn => (h2.2 i (Nat.lt_of_lt_of_le hi h1.1) hn).trans (h1.2 i hi hn)⟩
theorem Fr.more {a b : AH} {ks ls : List Nat} (h : Fr a b ks) (e : ∀ i ∈ ks, i ∈ ls) : Fr a b ls := ⟨h.1, fun i hi hn => h.2 i hi fun hm => hn (e i hm)⟩
theorem Fr.set {ah : AH} {k : Nat} {o : AO} {ks : List Nat} (hk : k ∈ ks) : Fr ah (ah.set k o) ks := ⟨by rw [List.length_set]; exact Nat.le_refl _, fun i _ hn => List.getElem?_set_ne (fun e : k = i => hn (by rw [← e]; exact hk))⟩
theorem Fr.push {ah : AH} {o : AO} {ks : List Nat} : Fr ah (ah ++ [o]) ks := ⟨by simp, fun i hi _ => List.getElem?_append_left hi⟩
theorem tells_bd (n : Nat) (A B : List Sts) : D.bds n (tells M w h A B) = true := by
  have bds : ∀ l : List D, (∀ d ∈ l, D.bd n d = true) → D.bds n l = true := fun l => by
    induction l with
    | nil => exact fun _ => rfl
    | cons a r ih =>
      intro hh
      rw [D.bds, hh a (by simp), ih fun d hd => hh d (by simp [hd])]
      rfl
  refine bds _ fun d hd => ?_
  obtain ⟨k, _, hd⟩ := List.mem_flatMap.mp hd
  obtain ⟨n, _, rfl⟩ := List.mem_map.mp hd
  rfl
theorem book_bd {n : Nat} (hp : p < n) (hu : u < n) : AO.bd n (bookO M w h st row p u) = true := by
  show (D.bd n (stD M w h st) && (D.bd n (.lst (row.map (dD w h))) && (D.bd n (.lst ((stands w h st row).map (stD M w h))) && (D.bd n (.ptr p) && (D.bd n (.ptr u) && true))))) = true
  rw [stD_bd, row_bd, lst_bd (fun n st => stD_bd n M w h st)]
  simp [D.bd, hp, hu]
theorem ev_become (hM : Nms M) (h1 : 1 ≤ w) (h2 : w ≤ 6) (h3 : 1 ≤ h) (h4 : h ≤ 6) (hr : ∀ d ∈ row, DOk M w h d) (hr' : ∀ d ∈ row', DOk M w h d) (hl : row.length ≤ 900) (hl' : row'.length ≤ 900) (hb : Bd ah) (hk : ah[k]? = some (bookO M w h st row p u)) :
    f_Book_become [.ptr k, .lst (row'.map (dD w h))] ah = some (.ptr ah.length, (ah.set k (bookO M w h st row' p u)) ++ [.lst (tells M w h (stands w h st row) (stands w h st row'))]) := by
  have hlt := (List.getElem?_eq_some_iff.mp hk).1
  have hk2 : (ah ++ [AO.lst (tells M w h (stands w h st row) (stands w h st row'))])[k]? = some (.ins "Book" (bk (stD M w h st) (.lst (row.map (dD w h))) (.lst ((stands w h st row).map (stD M w h))) (.ptr p) (.ptr u))) := by
    rw [List.getElem?_append_left hlt, hk]
    rfl
  have no : (bookF M w h st row p u).lookup ("stood_by" : Str) = none := lk_no (by decide +kernel) (by decide +kernel) (by decide +kernel) (by decide +kernel) (by decide +kernel)
  have whole : s_Book_become [some (.ptr k), some (.lst (row'.map (dD w h))), none, none] ah = some (.rt (.ptr ah.length), (ah.set k (bookO M w h st row' p u)) ++ [.lst (tells M w h (stands w h st row) (stands w h st row'))]) := by
    unfold s_Book_become
    refine (seq_nx (asg_ev ((bmeth (mo := eVar 0) rfl hk no (cons_ev (a := eVar 1) (d := .lst (row'.map (dD w h))) rfl (nil_ev _ _))).trans (ev_stood_by hM h1 h2 h3 h4 hr hr' (by omega) (by omega) hb hk)))).trans ?_
    refine (seq_nx (asg_ev ((call_ev (cons_ev (bfld (mo := eVar 0) rfl hk lk_stood) (cons_ev (a := eVar 2) (d := .lst ((stands w h st row').map (stD M w h))) rfl (nil_ev _ _)))).trans (ev_other hM (by rw [stands_len]; omega) ah)))).trans ?_
    refine (seq_nx (fldM_ev (mv := eVar 1) (d := .lst (row'.map (dD w h))) rfl rfl hk2 (set_deeds ..))).trans ?_
    refine (seq_nx (fldM_ev (mv := eVar 2) (d := .lst ((stands w h st row').map (stD M w h))) rfl rfl (List.getElem?_set_self (by simp; omega)) (set_stood ..))).trans ?_
    refine (ret_ev rfl).trans ?_
    rw [List.set_set, List.set_append_left _ _ hlt]
    rfl
  refine (fn_rt rfl whole).trans (congrArg some ?_)
  unfold trim
  rw [if_neg]
  simp [D.bd]
end
end K88

set_option linter.all false
set_option maxRecDepth 100000
namespace MM
open PySem L2
theorem dEq_ptr {m n : Nat} {ah : AH} {l l' : List D} (hm : m ≤ 50) (hn : ah[n]? = some (.lst l)) (hl : l.all (pb m) = true) (hl' : l'.all (pb m) = true) : dEq ah (.ptr n) (.lst l') = some (decide (l = l')) := by
  have e := dEq_pb (n := m + 1) (ah := ah) (x := .lst l) (y := .lst l') (by omega) (by simpa [pb] using hl) (by simpa [pb] using hl')
  have t : topPy ah (.ptr n) = topPy ah (.lst l) := by
    have : asL ah (.ptr n) = some l := by simp [asL, hn]
    show (asL ah (.ptr n)).bind _ = D.py (.lst l)
    rw [this, Option.bind_some, D.py]
  have e2 : dEq ah (.ptr n) (.lst l') = dEq ah (.lst l) (.lst l') := by
    show ((topPy ah (.ptr n)).bind fun p => (topPy ah (.lst l')).bind fun r => if (SeqAt.shaped p && SeqAt.shaped r) = true then some (PyData.eqv p r) else none) = _
    rw [t]
    rfl
  rw [e2, e]
  congr 1
  exact decide_eq_decide.mpr ⟨fun q => D.lst.inj q, fun q => by rw [q]⟩
theorem mut_ev {g : AH → List D → List D → Option (D × List D)} {mo : ME} {ma : MA} {δ : DL} {ah ah1 ah2 : AH} {n : Nat} {l l2 l' ds : List D} {d : D} (ho : mo δ ah = some (.ptr n, ah1)) (hl : ah1[n]? = some (.lst l)) (ha : ma δ ah1 = some (ds, ah2)) (h2 : ah2[n]? = some (.lst l2)) (hg : g ah2 l2 ds = some (d, l')) : eMut g mo ma δ ah = some (d, ah2.set n (.lst l')) := by
  unfold eMut
  rw [ho, Option.bind_some]
  have e1 : lstAt ah1 n = some l := by simp [lstAt, hl]
  have e2 : lstAt ah2 n = some l2 := by simp [lstAt, h2]
  simp only [e1, ha, e2, hg, Option.bind_some, Option.map_some]
end MM
namespace K88
open PySem L2 MM
section
variable {M : List Str} {w h : Nat} {st : Sts} {row row' : List Dd} {p u k : Nat} {ah : AH} {past undone : List (List Dd)}
def rowD (w h : Nat) (r : List Dd) : D := .lst (r.map (dD w h))
structure BookAt (M : List Str) (w h : Nat) (ah : AH) (k p u : Nat) (st : Sts) (row : List Dd) (past undone : List (List Dd)) : Prop where
  bk : ah[k]? = some (bookO M w h st row p u)
  ps : ah[p]? = some (.lst (past.map (rowD w h)))
  un : ah[u]? = some (.lst (undone.map (rowD w h)))
  kp : k ≠ p
  ku : k ≠ u
  pu : p ≠ u
/-- a doing's end -/
structure Did (M : List Str) (w h : Nat) (ah ah' : AH) (k p u u' t : Nat) (st : Sts) (row row' : List Dd) (past' undone' : List (List Dd)) : Prop where
  book : BookAt M w h ah' k p u' st row' past' undone'
  told : ah'[t]? = some (.lst (tells M w h (stands w h st row) (stands w h st row')))
  fr : Fr ah ah' [k, p, u]
  tn : ah.length ≤ t
  tu : t ≠ u'
  un : u' = u ∨ ah.length ≤ u'
  bd : Bd ah'
theorem rows_bd (n : Nat) : ∀ l : List (List Dd), D.bds n (l.map (rowD w h)) = true
  | [] => rfl
  | r :: l => by
    rw [List.map_cons, D.bds, rowD, row_bd, rows_bd n l]
    rfl
theorem become_nofld : (bookF M w h st row p u).lookup ("become" : Str) = none := lk_no (by decide +kernel) (by decide +kernel) (by decide +kernel) (by decide +kernel) (by decide +kernel)
theorem ev_changed (hM : Nms M) (h1 : 1 ≤ w) (h2 : w ≤ 6) (h3 : 1 ≤ h) (h4 : h ≤ 6) (hr : ∀ d ∈ row, DOk M w h d) (hr' : ∀ d ∈ row', DOk M w h d) (hl : row.length ≤ 900) (hl' : row'.length ≤ 900) (hp : past.length ≤ 1000) (hb : Bd ah) (B : BookAt M w h ah k p u st row past undone) :
    ∃ t ah' u', f_Book_changed [.ptr k, rowD w h row'] ah = some (.ptr t, ah') ∧ Did M w h ah ah' k p u u' t st row row' (past ++ [row]) [] := by
  obtain ⟨b1, b2, b3, kp, ku, pu⟩ := B
  have lk := (List.getElem?_eq_some_iff.mp b1).1
  have lp := (List.getElem?_eq_some_iff.mp b2).1
  have lu := (List.getElem?_eq_some_iff.mp b3).1
  generalize e1 : ah.set p (.lst ((past ++ [row]).map (rowD w h))) = ah1
  have len1 : ah1.length = ah.length := by rw [← e1, List.length_set]
  have k1 : ah1[k]? = some (bookO M w h st row p u) := by rw [← e1, List.getElem?_set_ne (Ne.symm kp)]; exact b1
  have p1 : ah1[p]? = some (.lst ((past ++ [row]).map (rowD w h))) := by rw [← e1]; exact List.getElem?_set_self lp
  have bd1 : Bd ah1 := by rw [← e1]; exact hb.set (rows_bd _ _)
  generalize e2 : (ah1 ++ [AO.lst []]).set k (bookO M w h st row p ah.length) = ah2
  have len2 : ah2.length = ah.length + 1 := by rw [← e2, List.length_set, List.length_append, len1]; rfl
  have k2 : ah2[k]? = some (bookO M w h st row p ah.length) := by rw [← e2]; exact List.getElem?_set_self (by simp [len1]; omega)
  have p2 : ah2[p]? = some (.lst ((past ++ [row]).map (rowD w h))) := by rw [← e2, List.getElem?_set_ne kp, List.getElem?_append_left (by omega)]; exact p1
  have u2 : ah2[ah.length]? = some (.lst []) := by
    rw [← e2, List.getElem?_set_ne (by omega), ← len1]
    exact List.getElem?_concat_length
  have bd2 : Bd ah2 := by
    rw [← e2]
    exact (bd1.push (o := .lst []) rfl).set (book_bd (by simp [len1]; omega) (by simp [len1]))
  have bc := ev_become (st := st) hM h1 h2 h3 h4 hr hr' hl hl' bd2 k2
  have s1 : sExpr (eMut gAppend (eFld ["Book"] "past" (eVar 0)) (aCons (eFld ["Book"] "deeds" (eVar 0)) aNil)) [some (.ptr k), some (rowD w h row')] ah = some (.nx [some (.ptr k), some (rowD w h row')], ah1) := by
    refine exp_ev ((mut_ev (bfld (mo := eVar 0) rfl b1 lk_past) b2 (cons_ev (bfld (mo := eVar 0) rfl b1 lk_deeds) (nil_ev _ _)) b2 (l' := (past ++ [row]).map (rowD w h)) (d := .non) ?_).trans (by rw [e1]))
    show (if (past.map (rowD w h)).length < 100000 then some (D.non, past.map (rowD w h) ++ [.lst (row.map (dD w h))]) else none) = _
    rw [if_pos (by rw [List.length_map]; omega), List.map_append]
    rfl
  have s2 : sFldM ["Book"] "undone_rows" (eVar 0) (eOwn (fLst aNil)) [some (.ptr k), some (rowD w h row')] ah1 = some (.nx [some (.ptr k), some (rowD w h row')], ah2) := by
    have kk : (ah1 ++ [AO.lst []])[k]? = some (.ins "Book" (bk (stD M w h st) (.lst (row.map (dD w h))) (.lst ((stands w h st row).map (stD M w h))) (.ptr p) (.ptr u))) := by
      rw [List.getElem?_append_left (by omega), k1]
      rfl
    refine (fldM_ev (own_ev (l := []) (ah1 := ah1) rfl) (mo := eVar 0) rfl kk (set_undone ..)).trans ?_
    rw [← e2, len1]
    rfl
  have whole : s_Book_changed [some (.ptr k), some (rowD w h row')] ah = some (.rt (.ptr ah2.length), (ah2.set k (bookO M w h st row' p ah.length)) ++ [.lst (tells M w h (stands w h st row) (stands w h st row'))]) := by
    unfold s_Book_changed
    exact (seq_nx s1).trans ((seq_nx s2).trans (ret_ev ((bmeth (mo := eVar 0) rfl k2 (become_nofld (st := st)) (cons_ev (a := eVar 1) (d := rowD w h row') rfl (nil_ev _ _))).trans bc)))
  have tr : trim ah (.ptr ah2.length, (ah2.set k (bookO M w h st row' p ah.length)) ++ [.lst (tells M w h (stands w h st row) (stands w h st row'))]) = (.ptr ah2.length, (ah2.set k (bookO M w h st row' p ah.length)) ++ [.lst (tells M w h (stands w h st row) (stands w h st row'))]) := by
    unfold trim
    rw [if_neg]
    simp [D.bd, len2]
    omega
  refine ⟨ah2.length, _, ah.length, (fn_rt rfl whole).trans (congrArg some tr), ⟨?_, ?_, ?_, kp, ?_, ?_⟩, ?_, ?_, by omega, by omega, .inr (Nat.le_refl _), ?_⟩
  · rw [List.getElem?_append_left (by rw [List.length_set]; omega)]
    exact List.getElem?_set_self (by omega)
  · rw [List.getElem?_append_left (by rw [List.length_set]; omega), List.getElem?_set_ne kp]
    exact p2
  · rw [List.getElem?_append_left (by rw [List.length_set]; omega), List.getElem?_set_ne (by omega)]
    exact u2
  · omega
  · omega
  · have : ah2.length = (ah2.set k (bookO M w h st row' p ah.length)).length := by rw [List.length_set]
    rw [this]
    exact List.getElem?_concat_length
  · refine ⟨by simp; omega, fun i hi hn => ?_⟩
    simp only [List.mem_cons, List.not_mem_nil, or_false, not_or] at hn
    rw [List.getElem?_append_left (by rw [List.length_set]; omega), List.getElem?_set_ne (Ne.symm hn.1), ← e2, List.getElem?_set_ne (Ne.symm hn.1), List.getElem?_append_left (by omega), ← e1, List.getElem?_set_ne (Ne.symm hn.2.1)]
  · exact (bd2.set (book_bd (by omega) (by omega))).push (by
      show D.bds _ _ = true
      exact tells_bd _ _ _)
end
end K88

set_option linter.all false
set_option maxRecDepth 100000
namespace K88
open PySem L2 MM
section
variable {M : List Str} {w h : Nat} {st : Sts} {row row' : List Dd} {p u k : Nat} {ah : AH} {past undone : List (List Dd)}
theorem ev_back (hM : Nms M) (h1 : 1 ≤ w) (h2 : w ≤ 6) (h3 : 1 ≤ h) (h4 : h ≤ 6) {r : List Dd} {ps : List (List Dd)} (hr : ∀ d ∈ row, DOk M w h d) (hps : ∀ z ∈ ps ++ [r], ∀ d ∈ z, DOk M w h d) (hl : row.length ≤ 900) (hl' : r.length ≤ 900) (hp : undone.length ≤ 1000) (hb : Bd ah) (B : BookAt M w h ah k p u st row (ps ++ [r]) undone) :
    ∃ t ah', f_Book_back [.ptr k] ah = some (.ptr t, ah') ∧ Did M w h ah ah' k p u u t st row r ps (undone ++ [row]) := by
  obtain ⟨b1, b2, b3, kp, ku, pu⟩ := B
  have lk := (List.getElem?_eq_some_iff.mp b1).1
  have lp := (List.getElem?_eq_some_iff.mp b2).1
  have lu := (List.getElem?_eq_some_iff.mp b3).1
  have hr' : ∀ d ∈ r, DOk M w h d := hps r (by simp)
  generalize e1 : ah.set u (.lst ((undone ++ [row]).map (rowD w h))) = ah1
  have len1 : ah1.length = ah.length := by rw [← e1, List.length_set]
  have k1 : ah1[k]? = some (bookO M w h st row p u) := by rw [← e1, List.getElem?_set_ne (Ne.symm ku)]; exact b1
  have o1 : ah1[u]? = some (.lst ((undone ++ [row]).map (rowD w h))) := by rw [← e1]; exact List.getElem?_set_self lu
  have p1 : ah1[p]? = some (.lst ((ps ++ [r]).map (rowD w h))) := by rw [← e1, List.getElem?_set_ne (Ne.symm pu)]; exact b2
  have bd1 : Bd ah1 := by rw [← e1]; exact hb.set (rows_bd _ _)
  generalize e2 : ah1.set p (.lst (ps.map (rowD w h))) = ah2
  have len2 : ah2.length = ah.length := by rw [← e2, List.length_set, len1]
  have k2 : ah2[k]? = some (bookO M w h st row p u) := by rw [← e2, List.getElem?_set_ne (Ne.symm kp)]; exact k1
  have p2 : ah2[p]? = some (.lst (ps.map (rowD w h))) := by rw [← e2]; exact List.getElem?_set_self (by omega)
  have o2 : ah2[u]? = some (.lst ((undone ++ [row]).map (rowD w h))) := by rw [← e2, List.getElem?_set_ne pu]; exact o1
  have bd2 : Bd ah2 := by rw [← e2]; exact bd1.set (rows_bd _ _)
  have bc := ev_become (st := st) hM h1 h2 h3 h4 hr hr' hl hl' bd2 k2
  have s0 : tOf (eBin gEq (eFld ["Book"] "past" (eVar 0)) (eFrz (fLst aNil))) [some (.ptr k)] ah = some (false, ah) := by
    refine tof_ev (bin_ev (bfld (mo := eVar 0) rfl b1 lk_past) (y := .lst []) rfl ?_)
    have al : ((ps ++ [r]).map (rowD w h)).all (pb 3) = true := by
      rw [List.all_map, List.all_eq_true]
      intro z hz
      show (z.map (dD w h)).all (pb 2) = true
      rw [List.all_map, List.all_eq_true]
      exact fun d hd => dD_pb hM (hps z hz d hd)
    rw [gEq, dEq_ptr (m := 3) (by decide) b2 al rfl, decide_eq_false (by simp)]
    rfl
  have s1 : sExpr (eMut gAppend (eFld ["Book"] "undone_rows" (eVar 0)) (aCons (eFld ["Book"] "deeds" (eVar 0)) aNil)) [some (.ptr k)] ah = some (.nx [some (.ptr k)], ah1) := by
    refine exp_ev ((mut_ev (bfld (mo := eVar 0) rfl b1 lk_undone) b3 (cons_ev (bfld (mo := eVar 0) rfl b1 lk_deeds) (nil_ev _ _)) b3 (l' := (undone ++ [row]).map (rowD w h)) (d := .non) ?_).trans (by rw [e1]))
    show (if (undone.map (rowD w h)).length < 100000 then some (D.non, undone.map (rowD w h) ++ [.lst (row.map (dD w h))]) else none) = _
    rw [if_pos (by rw [List.length_map]; omega), List.map_append]
    rfl
  have s2 : eMut gPop (eFld ["Book"] "past" (eVar 0)) aNil [some (.ptr k)] ah1 = some (rowD w h r, ah2) := by
    refine (mut_ev (bfld (mo := eVar 0) rfl k1 lk_past) p1 (nil_ev _ _) p1 (l' := ps.map (rowD w h)) (d := rowD w h r) ?_).trans (by rw [e2])
    simp [gPop]
  have whole : s_Book_back [some (.ptr k)] ah = some (.rt (.ptr ah2.length), (ah2.set k (bookO M w h st r p u)) ++ [.lst (tells M w h (stands w h st row) (stands w h st r))]) := by
    unfold s_Book_back
    exact (seq_skip s0).trans ((seq_nx s1).trans (ret_ev ((bmeth (mo := eVar 0) rfl k1 (become_nofld (st := st)) (cons_ev s2 (nil_ev _ _))).trans bc)))
  have tr : trim ah (.ptr ah2.length, (ah2.set k (bookO M w h st r p u)) ++ [.lst (tells M w h (stands w h st row) (stands w h st r))]) = (.ptr ah2.length, (ah2.set k (bookO M w h st r p u)) ++ [.lst (tells M w h (stands w h st row) (stands w h st r))]) := by
    unfold trim
    rw [if_neg]
    simp [D.bd, len2]
  refine ⟨ah2.length, _, (fn_rt rfl whole).trans (congrArg some tr), ⟨?_, ?_, ?_, kp, ku, pu⟩, ?_, ?_, by omega, by omega, .inl rfl, ?_⟩
  · rw [List.getElem?_append_left (by rw [List.length_set]; omega)]
    exact List.getElem?_set_self (by omega)
  · rw [List.getElem?_append_left (by rw [List.length_set]; omega), List.getElem?_set_ne kp]
    exact p2
  · rw [List.getElem?_append_left (by rw [List.length_set]; omega), List.getElem?_set_ne ku]
    exact o2
  · have : ah2.length = (ah2.set k (bookO M w h st r p u)).length := by rw [List.length_set]
    rw [this]
    exact List.getElem?_concat_length
  · refine ⟨by simp; omega, fun i hi hn => ?_⟩
    simp only [List.mem_cons, List.not_mem_nil, or_false, not_or] at hn
    rw [List.getElem?_append_left (by rw [List.length_set]; omega), List.getElem?_set_ne (Ne.symm hn.1), ← e2, List.getElem?_set_ne (Ne.symm hn.2.1), ← e1, List.getElem?_set_ne (Ne.symm hn.2.2)]
  · exact (bd2.set (book_bd (by omega) (by omega))).push (by
      show D.bds _ _ = true
      exact tells_bd _ _ _)

theorem ev_again (hM : Nms M) (h1 : 1 ≤ w) (h2 : w ≤ 6) (h3 : 1 ≤ h) (h4 : h ≤ 6) {r : List Dd} {ps : List (List Dd)} (hr : ∀ d ∈ row, DOk M w h d) (hps : ∀ z ∈ ps ++ [r], ∀ d ∈ z, DOk M w h d) (hl : row.length ≤ 900) (hl' : r.length ≤ 900) (hp : past.length ≤ 1000) (hb : Bd ah) (B : BookAt M w h ah k p u st row past (ps ++ [r])) :
    ∃ t ah', f_Book_again [.ptr k] ah = some (.ptr t, ah') ∧ Did M w h ah ah' k p u u t st row r (past ++ [row]) ps := by
  obtain ⟨b1, b2, b3, kp, ku, pu⟩ := B
  have lk := (List.getElem?_eq_some_iff.mp b1).1
  have lp := (List.getElem?_eq_some_iff.mp b2).1
  have lu := (List.getElem?_eq_some_iff.mp b3).1
  have hr' : ∀ d ∈ r, DOk M w h d := hps r (by simp)
  generalize e1 : ah.set p (.lst ((past ++ [row]).map (rowD w h))) = ah1
  have len1 : ah1.length = ah.length := by rw [← e1, List.length_set]
  have k1 : ah1[k]? = some (bookO M w h st row p u) := by rw [← e1, List.getElem?_set_ne (Ne.symm kp)]; exact b1
  have o1 : ah1[p]? = some (.lst ((past ++ [row]).map (rowD w h))) := by rw [← e1]; exact List.getElem?_set_self lp
  have p1 : ah1[u]? = some (.lst ((ps ++ [r]).map (rowD w h))) := by rw [← e1, List.getElem?_set_ne pu]; exact b3
  have bd1 : Bd ah1 := by rw [← e1]; exact hb.set (rows_bd _ _)
  generalize e2 : ah1.set u (.lst (ps.map (rowD w h))) = ah2
  have len2 : ah2.length = ah.length := by rw [← e2, List.length_set, len1]
  have k2 : ah2[k]? = some (bookO M w h st row p u) := by rw [← e2, List.getElem?_set_ne (Ne.symm ku)]; exact k1
  have p2 : ah2[u]? = some (.lst (ps.map (rowD w h))) := by rw [← e2]; exact List.getElem?_set_self (by omega)
  have o2 : ah2[p]? = some (.lst ((past ++ [row]).map (rowD w h))) := by rw [← e2, List.getElem?_set_ne (Ne.symm pu)]; exact o1
  have bd2 : Bd ah2 := by rw [← e2]; exact bd1.set (rows_bd _ _)
  have bc := ev_become (st := st) hM h1 h2 h3 h4 hr hr' hl hl' bd2 k2
  have s0 : tOf (eBin gEq (eFld ["Book"] "undone_rows" (eVar 0)) (eFrz (fLst aNil))) [some (.ptr k)] ah = some (false, ah) := by
    refine tof_ev (bin_ev (bfld (mo := eVar 0) rfl b1 lk_undone) (y := .lst []) rfl ?_)
    have al : ((ps ++ [r]).map (rowD w h)).all (pb 3) = true := by
      rw [List.all_map, List.all_eq_true]
      intro z hz
      show (z.map (dD w h)).all (pb 2) = true
      rw [List.all_map, List.all_eq_true]
      exact fun d hd => dD_pb hM (hps z hz d hd)
    rw [gEq, dEq_ptr (m := 3) (by decide) b3 al rfl, decide_eq_false (by simp)]
    rfl
  have s1 : sExpr (eMut gAppend (eFld ["Book"] "past" (eVar 0)) (aCons (eFld ["Book"] "deeds" (eVar 0)) aNil)) [some (.ptr k)] ah = some (.nx [some (.ptr k)], ah1) := by
    refine exp_ev ((mut_ev (bfld (mo := eVar 0) rfl b1 lk_past) b2 (cons_ev (bfld (mo := eVar 0) rfl b1 lk_deeds) (nil_ev _ _)) b2 (l' := (past ++ [row]).map (rowD w h)) (d := .non) ?_).trans (by rw [e1]))
    show (if (past.map (rowD w h)).length < 100000 then some (D.non, past.map (rowD w h) ++ [.lst (row.map (dD w h))]) else none) = _
    rw [if_pos (by rw [List.length_map]; omega), List.map_append]
    rfl
  have s2 : eMut gPop (eFld ["Book"] "undone_rows" (eVar 0)) aNil [some (.ptr k)] ah1 = some (rowD w h r, ah2) := by
    refine (mut_ev (bfld (mo := eVar 0) rfl k1 lk_undone) p1 (nil_ev _ _) p1 (l' := ps.map (rowD w h)) (d := rowD w h r) ?_).trans (by rw [e2])
    simp [gPop]
  have whole : s_Book_again [some (.ptr k)] ah = some (.rt (.ptr ah2.length), (ah2.set k (bookO M w h st r p u)) ++ [.lst (tells M w h (stands w h st row) (stands w h st r))]) := by
    unfold s_Book_again
    exact (seq_skip s0).trans ((seq_nx s1).trans (ret_ev ((bmeth (mo := eVar 0) rfl k1 (become_nofld (st := st)) (cons_ev s2 (nil_ev _ _))).trans bc)))
  have tr : trim ah (.ptr ah2.length, (ah2.set k (bookO M w h st r p u)) ++ [.lst (tells M w h (stands w h st row) (stands w h st r))]) = (.ptr ah2.length, (ah2.set k (bookO M w h st r p u)) ++ [.lst (tells M w h (stands w h st row) (stands w h st r))]) := by
    unfold trim
    rw [if_neg]
    simp [D.bd, len2]
  refine ⟨ah2.length, _, (fn_rt rfl whole).trans (congrArg some tr), ⟨?_, ?_, ?_, kp, ku, pu⟩, ?_, ?_, by omega, by omega, .inl rfl, ?_⟩
  · rw [List.getElem?_append_left (by rw [List.length_set]; omega)]
    exact List.getElem?_set_self (by omega)
  · rw [List.getElem?_append_left (by rw [List.length_set]; omega), List.getElem?_set_ne kp]
    exact o2
  · rw [List.getElem?_append_left (by rw [List.length_set]; omega), List.getElem?_set_ne ku]
    exact p2
  · have : ah2.length = (ah2.set k (bookO M w h st r p u)).length := by rw [List.length_set]
    rw [this]
    exact List.getElem?_concat_length
  · refine ⟨by simp; omega, fun i hi hn => ?_⟩
    simp only [List.mem_cons, List.not_mem_nil, or_false, not_or] at hn
    rw [List.getElem?_append_left (by rw [List.length_set]; omega), List.getElem?_set_ne (Ne.symm hn.1), ← e2, List.getElem?_set_ne (Ne.symm hn.2.2), ← e1, List.getElem?_set_ne (Ne.symm hn.2.1)]
  · exact (bd2.set (book_bd (by omega) (by omega))).push (by
      show D.bds _ _ = true
      exact tells_bd _ _ _)

end
end K88

set_option linter.all false
set_option maxRecDepth 100000
namespace K88
open PySem L2 MM
section
variable {M : List Str} {w h : Nat} {st : Sts} {row row' : List Dd} {p u k : Nat} {ah : AH} {past undone : List (List Dd)}
theorem trim_ptr {ah ah' : AH} {t : Nat} (ht : ah.length ≤ t) : trim ah (.ptr t, ah') = (.ptr t, ah') := by
  unfold trim
  rw [if_neg]
  simp [D.bd]
  omega
inductive Do where
  | ado (d : Dd) | slip (a : Nat) (d : Dd) | put (a : Nat) (d : Dd) | take (a : Nat)
def doD (w h : Nat) : Do → D
  | .ado d => .tup [.str "do", dD w h d]
  | .slip a d => .tup [.str "slip", .int (a : Nat), dD w h d]
  | .put a d => .tup [.str "put", .int (a : Nat), dD w h d]
  | .take a => .tup [.str "take", .int (a : Nat)]
def rowBy (row : List Dd) : Do → List Dd
  | .ado d => row ++ [d]
  | .slip a d => row.take a ++ [d] ++ row.drop a
  | .put a d => row.take a ++ [d] ++ row.drop (a + 1)
  | .take a => row.take a ++ row.drop (a + 1)
def DoOk (M : List Str) (w h : Nat) (row : List Dd) : Do → Prop
  | .ado d => DOk M w h d
  | .slip a d => DOk M w h d ∧ a ≤ row.length
  | .put a d => DOk M w h d ∧ a < row.length
  | .take a => a < row.length
theorem rowBy_ok {x : Do} (hr : ∀ d ∈ row, DOk M w h d) (hx : DoOk M w h row x) : ∀ d ∈ rowBy row x, DOk M w h d := fun d hd => by
  have tk : ∀ {n d}, d ∈ row.take n → DOk M w h d := fun hm => hr _ (List.mem_of_mem_take hm)
  have dr : ∀ {n d}, d ∈ row.drop n → DOk M w h d := fun hm => hr _ (List.mem_of_mem_drop hm)
  cases x with
  | ado e =>
    rcases List.mem_append.mp hd with h1 | h1
    · exact hr d h1
    · rw [List.mem_singleton.mp h1]; exact hx
  | slip a e =>
    rcases List.mem_append.mp hd with h1 | h1
    · rcases List.mem_append.mp h1 with h1 | h1
      · exact tk h1
      · rw [List.mem_singleton.mp h1]; exact hx.1
    · exact dr h1
  | put a e =>
    rcases List.mem_append.mp hd with h1 | h1
    · rcases List.mem_append.mp h1 with h1 | h1
      · exact tk h1
      · rw [List.mem_singleton.mp h1]; exact hx.1
    · exact dr h1
  | take a =>
    rcases List.mem_append.mp hd with h1 | h1
    · exact tk h1
    · exact dr h1
theorem rowBy_len (x : Do) : (rowBy row x).length ≤ row.length + 1 := by
  cases x <;> simp [rowBy] <;> omega
theorem rowD_app (a b : List Dd) : a.map (dD w h) ++ b.map (dD w h) = (a ++ b).map (dD w h) := (List.map_append).symm
theorem ev_good (ah : AH) (i : Int) : f_good_or_wrong [.int i, .bl true] ah = some (.non, ah) := by
  have hs : s_good_or_wrong [some (.int i), some (.bl true)] ah = some (.nx [some (.int i), some (.bl true)], ah) := rfl
  exact (fn_nx rfl hs).trans (by rw [trim_self])
theorem ev_from_none (a : Nat) (ah : AH) : f_is_from_none [.int (a : Nat)] ah = some (.bl true, ah) := by
  have w1 : f_is_whole [.int (a : Nat)] ah = some (.bl true, ah) := by
    have hs : s_is_whole [some (.int (a : Nat))] ah = some (.rt (.bl true), ah) := rfl
    exact (fn_rt rfl hs).trans (by rw [trim_self])
  have hs : s_is_from_none [some (.int (a : Nat))] ah = some (.rt (.bl true), ah) := by
    unfold s_is_from_none
    refine ret_ev ((and_t ((call_ev (ma := aCons (eVar 0) aNil) (ds := [.int (a : Nat)]) rfl).trans w1)).trans ?_)
    refine bin_ev (x := .int (a : Nat)) rfl rfl ?_
    show some (D.bl (decide ((0 : Int) ≤ (a : Nat)))) = _
    rw [decide_eq_true (by omega)]
  exact (fn_rt rfl hs).trans (by rw [trim_self])
theorem ev_need_there {a b : Int} (hab : a ≤ b) (x : D) (ah : AH) : f_Book_need_there [x, .int a, .int b] ah = some (.non, ah) := by
  have hs : s_Book_need_there [some x, some (.int a), some (.int b)] ah = some (.nx [some x, some (.int a), some (.int b)], ah) := by
    unfold s_Book_need_there
    refine nil_t (tof_ev (bin_ev (x := .int a) (y := .int b) rfl rfl ?_))
    show some (D.bl (decide (b < a))) = _
    rw [decide_eq_false (by omega)]
  exact (fn_nx rfl hs).trans (by rw [trim_self])
theorem nofld {m : Str} (a : (m == "begun") = false) (b : (m == "deeds") = false) (c : (m == "stood") = false) (d : (m == "past") = false) (e : (m == "undone_rows") = false) : (bookF M w h st row p u).lookup m = none := lk_no a b c d e
theorem ev_need_room (hl : row.length < 200) (hk : ah[k]? = some (bookO M w h st row p u)) : f_Book_need_room [.ptr k] ah = some (.non, ah) := by
  have hs : s_Book_need_room [some (.ptr k)] ah = some (.nx [some (.ptr k)], ah) := by
    unfold s_Book_need_room
    have ln := (bmeth (mf := f_Book_length) (mo := eVar 0) (δ := [some (.ptr k)]) rfl hk (len_no (st := st)) (nil_ev _ _)).trans (ev_length hk)
    refine nil_t (tof_ev (bin_ev ln (y := .int 200) rfl ?_))
    show some (D.bl (decide ((200 : Int) ≤ (row.length : Nat)))) = _
    rw [decide_eq_false (by omega)]
  exact (fn_nx rfl hs).trans (by rw [trim_self])
theorem chg_no : (bookF M w h st row p u).lookup ("changed" : Str) = none := lk_no (by decide +kernel) (by decide +kernel) (by decide +kernel) (by decide +kernel) (by decide +kernel)
theorem room_no : (bookF M w h st row p u).lookup ("need_room" : Str) = none := lk_no (by decide +kernel) (by decide +kernel) (by decide +kernel) (by decide +kernel) (by decide +kernel)
theorem there_no : (bookF M w h st row p u).lookup ("need_there" : Str) = none := lk_no (by decide +kernel) (by decide +kernel) (by decide +kernel) (by decide +kernel) (by decide +kernel)
theorem prow_no : (bookF M w h st row p u).lookup ("put_row" : Str) = none := lk_no (by decide +kernel) (by decide +kernel) (by decide +kernel) (by decide +kernel) (by decide +kernel)
/-- the checks ahead of a doing -/
theorem chk_need (hM : Nms M) (h2 : w ≤ 6) (h3 : 1 ≤ h) {δ : DL} {d : Dd} {i : Nat} (hd : DOk M w h d) (hk : ah[k]? = some (bookO M w h st row p u)) (v0 : δ[0]? = some (some (.ptr k))) (vi : δ[i]? = some (some (dD w h d))) :
    sExpr (eMeth [("Stamps", f_Stamps_need_deed)] "need_deed" (eFld ["Book"] "begun" (eVar 0)) (aCons (eVar i) aNil)) δ ah = some (.nx δ, ah) :=
  exp_ev ((smeth (M := M) (w := w) (h := h) (st := st) (bfld (var_ev v0) hk lk_begun) (by decide +kernel) (cons_ev (var_ev vi) (nil_ev _ _))).trans (ev_need hM h2 h3 hd ah))
theorem chk_deed (hM : Nms M) (h1 : 1 ≤ w) (h2 : w ≤ 6) (h3 : 1 ≤ h) (h4 : h ≤ 6) {δ : DL} {d : Dd} {i : Nat} {j : Int} (hd : DOk M w h d) (vi : δ[i]? = some (some (dD w h d))) : sExpr (eCall f_good_or_wrong (aCons (eC (.int j)) (aCons (eCall f_is_deed (aCons (eVar i) aNil)) aNil))) δ ah = some (.nx δ, ah) :=
  exp_ev ((call_ev (cons_ev rfl (cons_ev ((call_ev (cons_ev (var_ev vi) (nil_ev _ _))).trans (ev_is_deed hM h1 h2 h3 h4 hd ah)) (nil_ev _ _)))).trans (ev_good ah j))
theorem chk_none {δ : DL} {a i : Nat} {j : Int} (vi : δ[i]? = some (some (.int (a : Nat)))) : sExpr (eCall f_good_or_wrong (aCons (eC (.int j)) (aCons (eCall f_is_from_none (aCons (eVar i) aNil)) aNil))) δ ah = some (.nx δ, ah) :=
  exp_ev ((call_ev (cons_ev rfl (cons_ev ((call_ev (cons_ev (var_ev vi) (nil_ev _ _))).trans (ev_from_none a ah)) (nil_ev _ _)))).trans (ev_good ah j))
theorem chk_room {δ : DL} (hl : row.length < 200) (hk : ah[k]? = some (bookO M w h st row p u)) (v0 : δ[0]? = some (some (.ptr k))) : sExpr (eMeth [("Book", f_Book_need_room)] "need_room" (eVar 0) aNil) δ ah = some (.nx δ, ah) :=
  exp_ev ((bmeth (var_ev v0) hk (room_no (st := st)) (nil_ev _ _)).trans (ev_need_room hl hk))
theorem len_ev {δ : DL} (hk : ah[k]? = some (bookO M w h st row p u)) (v0 : δ[0]? = some (some (.ptr k))) : eMeth [("Book", f_Book_length)] "length" (eVar 0) aNil δ ah = some (.int row.length, ah) := (bmeth (var_ev v0) hk (len_no (st := st)) (nil_ev _ _)).trans (ev_length hk)
theorem chk_there {δ : DL} {a : Nat} {m : ME} {b : Int} (hk : ah[k]? = some (bookO M w h st row p u)) (v0 : δ[0]? = some (some (.ptr k))) (v1 : δ[1]? = some (some (.int (a : Nat)))) (hm : m δ ah = some (.int b, ah)) (hab : (a : Int) ≤ b) : sExpr (eMeth [("Book", f_Book_need_there)] "need_there" (eVar 0) (aCons (eVar 1) (aCons m aNil))) δ ah = some (.nx δ, ah) :=
  exp_ev ((bmeth (var_ev v0) hk (there_no (st := st)) (cons_ev (var_ev v1) (cons_ev hm (nil_ev _ _)))).trans (ev_need_there hab _ ah))
theorem deeds_ev {δ : DL} (hk : ah[k]? = some (bookO M w h st row p u)) (v0 : δ[0]? = some (some (.ptr k))) : eFld ["Book"] "deeds" (eVar 0) δ ah = some (.lst (row.map (dD w h)), ah) := bfld (var_ev v0) hk lk_deeds
theorem cut_ev {m a b : ME} {δ : DL} {i j : Nat} {d : Dd} {v : Nat} (hm : m δ ah = some (.lst (row.map (dD w h)), ah)) (ha : a δ ah = some (.int (i : Nat), ah)) (hb : b δ ah = some (.int (j : Nat), ah)) (hd : δ[v]? = some (some (dD w h d))) (hl : row.length ≤ 900) :
    eBin gAdd (eBin gAdd (eSl m oNone (oSome a)) (eFrz (fLst (aCons (eVar v) aNil)))) (eSl m (oSome b) oNone) δ ah = some (rowD w h (row.take i ++ [d] ++ row.drop j), ah) := by
  have e1 := add_lst (sl_take hm ha) (frz_ev (lst_ev (cons_ev (var_ev hd) (nil_ev _ _)) (by simp))) (by simp; omega)
  refine (add_lst e1 (sl_drop hm hb) (by simp; omega)).trans ?_
  rw [rowD, List.map_append, List.map_append, List.map_take, List.map_drop]
  rfl
theorem two_ev {m a b : ME} {δ : DL} {i j : Nat} (hm : m δ ah = some (.lst (row.map (dD w h)), ah)) (ha : a δ ah = some (.int (i : Nat), ah)) (hb : b δ ah = some (.int (j : Nat), ah)) (hl : row.length ≤ 900) :
    eBin gAdd (eSl m oNone (oSome a)) (eSl m (oSome b) oNone) δ ah = some (rowD w h (row.take i ++ row.drop j), ah) := by
  refine (add_lst (sl_take hm ha) (sl_drop hm hb) (by simp; omega)).trans ?_
  rw [rowD, List.map_append, List.map_take, List.map_drop]
theorem add1 {a : ME} {δ : DL} {i : Nat} (ha : a δ ah = some (.int (i : Nat), ah)) : eBin gAdd a (eC (.int 1)) δ ah = some (.int ((i + 1 : Nat) : Int), ah) := by
  refine (add_int ha rfl).trans ?_
  rw [Int.natCast_succ]
structure Wh (w h : Nat) : Prop where
  w1 : 1 ≤ w
  w6 : w ≤ 6
  h1 : 1 ≤ h
  h6 : h ≤ 6
/-- each doing of the book -/
theorem ev_told_by (hM : Nms M) (W : Wh w h) (hr : ∀ d ∈ row, DOk M w h d) (hl : row.length ≤ 150) (hp : past.length ≤ 1000) (hb : Bd ah) (B : BookAt M w h ah k p u st row past undone) {x : Do} (hx : DoOk M w h row x) :
    ∃ t ah' u', f__law_told_by [.ptr k, doD w h x] ah = some (.ptr t, ah') ∧ Did M w h ah ah' k p u u' t st row (rowBy row x) (past ++ [row]) [] := by
  obtain ⟨h1, h2, h3, h4⟩ := W
  have hk := B.bk
  have hr' := rowBy_ok hr hx
  have hl' := rowBy_len (row := row) x
  obtain ⟨t, ah', u', e, Z⟩ := ev_changed hM h1 h2 h3 h4 hr hr' (by omega) (by omega) hp hb B
  refine ⟨t, ah', u', ?_, Z⟩
  have tr : trim ah (.ptr t, ah') = (.ptr t, ah') := trim_ptr Z.tn
  have chg : ∀ {δ : DL} {m : ME}, δ[0]? = some (some (.ptr k)) → m δ ah = some (rowD w h (rowBy row x), ah) → sRet (eMeth [("Book", f_Book_changed)] "changed" (eVar 0) (aCons m aNil)) δ ah = some (.rt (.ptr t), ah') := fun v0 hm => ret_ev ((bmeth (var_ev v0) hk (chg_no (st := st)) (cons_ev hm (nil_ev _ _))).trans e)
  have lit : ∀ {k0 : Str} {y : Str} {b : Bool} {l : List D}, decide (k0 = y) = b → tOf (eBin gEq (eIx (eVar 1) (eC (.int 0))) (eC (.str y))) [some (.ptr k), some (.tup (.str k0 :: l))] ah = some (b, ah) := fun e => lit_eq (ix_at (i := 0) rfl rfl rfl) e
  suffices hs : s__law_told_by [some (.ptr k), some (doD w h x)] ah = some (.rt (.ptr t), ah') from (fn_rt rfl hs).trans (congrArg some tr)
  unfold s__law_told_by
  cases x with
  | ado d =>
    have b1 : f_Book_do [.ptr k, dD w h d] ah = some (.ptr t, ah') := by
      have hs : s_Book_do [some (.ptr k), some (dD w h d)] ah = some (.rt (.ptr t), ah') := by
        unfold s_Book_do
        refine (seq_nx (chk_deed hM h1 h2 h3 h4 (i := 1) hx rfl)).trans ((seq_nx (chk_need hM h2 h3 (i := 1) hx hk rfl rfl)).trans ((seq_nx (chk_room (by omega) hk rfl)).trans (chg rfl ?_)))
        refine (add_lst (deeds_ev hk rfl) (frz_ev (lst_ev (cons_ev (a := eVar 1) (d := dD w h d) rfl (nil_ev _ _)) (by simp))) (by simp; omega)).trans ?_
        rw [rowD, rowBy, List.map_append]
        rfl
      exact (fn_rt rfl hs).trans (congrArg some tr)
    have no : (bookF M w h st row p u).lookup ("do" : Str) = none := lk_no (by decide +kernel) (by decide +kernel) (by decide +kernel) (by decide +kernel) (by decide +kernel)
    exact seq_take (lit (by decide +kernel)) (ret_ev ((bmeth (mo := eVar 0) rfl hk no (cons_ev (ix_at (i := 1) rfl rfl rfl) (nil_ev _ _))).trans b1))
  | put a d =>
    obtain ⟨hd, ha⟩ := hx
    have b0 : f_Book_put_row [.ptr k, .int (a : Nat), dD w h d] ah = some (rowD w h (rowBy row (.put a d)), ah) := by
      have hs : s_Book_put_row [some (.ptr k), some (.int (a : Nat)), some (dD w h d)] ah = some (.rt (rowD w h (rowBy row (.put a d))), ah) := by
        unfold s_Book_put_row
        refine (seq_nx (chk_none (i := 1) rfl)).trans ((seq_nx (chk_deed hM h1 h2 h3 h4 (i := 2) hd rfl)).trans ((seq_nx (chk_need hM h2 h3 (i := 2) hd hk rfl rfl)).trans ((seq_nx (chk_there hk rfl rfl (sub_ev (len_ev hk rfl) rfl) (by omega))).trans (ret_ev ?_))))
        exact cut_ev (i := a) (j := a + 1) (deeds_ev hk rfl) rfl (add1 rfl) rfl (by omega)
      exact (fn_rt rfl hs).trans (by rw [trim_self])
    have b1 : f_Book_put [.ptr k, .int (a : Nat), dD w h d] ah = some (.ptr t, ah') := by
      have hs : s_Book_put [some (.ptr k), some (.int (a : Nat)), some (dD w h d)] ah = some (.rt (.ptr t), ah') := by
        unfold s_Book_put
        exact chg rfl ((bmeth (mo := eVar 0) rfl hk (prow_no (st := st)) (cons_ev (a := eVar 1) (d := .int (a : Nat)) rfl (cons_ev (a := eVar 2) (d := dD w h d) rfl (nil_ev _ _)))).trans b0)
      exact (fn_rt rfl hs).trans (congrArg some tr)
    have no : (bookF M w h st row p u).lookup ("put" : Str) = none := lk_no (by decide +kernel) (by decide +kernel) (by decide +kernel) (by decide +kernel) (by decide +kernel)
    exact (seq_skip (lit (by decide +kernel))).trans (seq_take (lit (by decide +kernel)) (ret_ev ((bmeth (mo := eVar 0) rfl hk no (cons_ev (ix_at (i := 1) rfl rfl rfl) (cons_ev (ix_at (i := 2) rfl rfl rfl) (nil_ev _ _)))).trans b1)))
  | slip a d =>
    obtain ⟨hd, ha⟩ := hx
    have b1 : f_Book_slip [.ptr k, .int (a : Nat), dD w h d] ah = some (.ptr t, ah') := by
      have hs : s_Book_slip [some (.ptr k), some (.int (a : Nat)), some (dD w h d)] ah = some (.rt (.ptr t), ah') := by
        unfold s_Book_slip
        refine (seq_nx (chk_none (i := 1) rfl)).trans ((seq_nx (chk_deed hM h1 h2 h3 h4 (i := 2) hd rfl)).trans ((seq_nx (chk_need hM h2 h3 (i := 2) hd hk rfl rfl)).trans ((seq_nx (chk_there hk rfl rfl (len_ev hk rfl) (by omega))).trans ((seq_nx (chk_room (by omega) hk rfl)).trans (chg rfl ?_)))))
        exact cut_ev (i := a) (j := a) (deeds_ev hk rfl) rfl rfl rfl (by omega)
      exact (fn_rt rfl hs).trans (congrArg some tr)
    have no : (bookF M w h st row p u).lookup ("slip" : Str) = none := lk_no (by decide +kernel) (by decide +kernel) (by decide +kernel) (by decide +kernel) (by decide +kernel)
    exact (seq_skip (lit (by decide +kernel))).trans ((seq_skip (lit (by decide +kernel))).trans (seq_take (lit (by decide +kernel)) (ret_ev ((bmeth (mo := eVar 0) rfl hk no (cons_ev (ix_at (i := 1) rfl rfl rfl) (cons_ev (ix_at (i := 2) rfl rfl rfl) (nil_ev _ _)))).trans b1))))
  | take a =>
    have ha : a < row.length := hx
    have b1 : f_Book_take [.ptr k, .int (a : Nat)] ah = some (.ptr t, ah') := by
      have hs : s_Book_take [some (.ptr k), some (.int (a : Nat))] ah = some (.rt (.ptr t), ah') := by
        unfold s_Book_take
        refine (seq_nx (chk_none (i := 1) rfl)).trans ((seq_nx (chk_there hk rfl rfl (sub_ev (len_ev hk rfl) rfl) (by omega))).trans (chg rfl ?_))
        exact two_ev (i := a) (j := a + 1) (deeds_ev hk rfl) rfl (add1 rfl) (by omega)
      exact (fn_rt rfl hs).trans (congrArg some tr)
    have no : (bookF M w h st row p u).lookup ("take" : Str) = none := lk_no (by decide +kernel) (by decide +kernel) (by decide +kernel) (by decide +kernel) (by decide +kernel)
    exact (seq_skip (lit (by decide +kernel))).trans ((seq_skip (lit (by decide +kernel))).trans ((seq_skip (lit (by decide +kernel))).trans (ret_ev ((bmeth (mo := eVar 0) rfl hk no (cons_ev (ix_at (i := 1) rfl rfl rfl) (nil_ev _ _))).trans b1))))
/-- the law's row -/
theorem ev_row_by (hl : row.length ≤ 150) {x : Do} : f__law_row_by [rowD w h row, doD w h x] ah = some (rowD w h (rowBy row x), ah) := by
  suffices hs : s__law_row_by [some (rowD w h row), some (doD w h x), none] ah = some (.rt (rowD w h (rowBy row x)), ah) from (fn_rt rfl hs).trans (by rw [trim_self])
  have lit : ∀ {k0 : Str} {y : Str} {b : Bool} {l : List D} {z : Option D}, decide (k0 = y) = b → tOf (eBin gEq (eIx (eVar 1) (eC (.int 0))) (eC (.str y))) [some (rowD w h row), some (.tup (.str k0 :: l)), z] ah = some (b, ah) := fun e => lit_eq (ix_at (i := 0) rfl rfl rfl) e
  unfold s__law_row_by
  cases x with
  | ado d =>
    refine seq_take (lit (by decide +kernel)) (ret_ev ?_)
    refine (add_lst (l := row.map (dD w h)) rfl (frz_ev (lst_ev (cons_ev (ix_at (i := 1) rfl rfl rfl) (nil_ev _ _)) (by simp))) (by simp; omega)).trans ?_
    rw [rowD, rowBy, List.map_append]
    rfl
  | take a =>
    refine (seq_skip (lit (by decide +kernel))).trans ((seq_nx (asg_ev (ix_at (i := 1) rfl rfl rfl))).trans (seq_take (lit (by decide +kernel)) (ret_ev ?_)))
    exact two_ev (i := a) (j := a + 1) rfl rfl (add1 rfl) (by omega)
  | put a d =>
    refine (seq_skip (lit (by decide +kernel))).trans ((seq_nx (asg_ev (ix_at (i := 1) rfl rfl rfl))).trans ((seq_skip (lit (by decide +kernel))).trans (ret_ev ?_)))
    have e1 := add_lst (sl_take (i := a) (m := eVar 0) (a := eVar 2) (δ := [some (rowD w h row), some (doD w h (.put a d)), some (.int (a : Nat))]) (ah := ah) (l := row.map (dD w h)) rfl rfl) (frz_ev (lst_ev (cons_ev (ix_at (m := eVar 1) (l := [.str "put", .int (a : Nat), dD w h d]) (i := 2) rfl rfl rfl) (nil_ev _ _)) (by simp))) (by simp; omega)
    have c1 : MM.e1 gInt (eBin gEq (eIx (eVar 1) (eC (.int 0))) (eC (.str "put"))) [some (rowD w h row), some (doD w h (.put a d)), some (.int (a : Nat))] ah = some (.int 1, ah) := e1_ev (lit_eqE (b := true) (ix_at (i := 0) rfl rfl rfl) (by decide +kernel)) rfl
    have c2 := add_int (a := eVar 2) (δ := [some (rowD w h row), some (doD w h (.put a d)), some (.int (a : Nat))]) (ah := ah) (i := (a : Nat)) rfl c1
    refine (add_lst e1 (sl_drop (i := a + 1) (l := row.map (dD w h)) rfl (c2.trans (by rw [Int.natCast_succ]))) (by simp; omega)).trans ?_
    rw [rowD, rowBy, List.map_append, List.map_append, List.map_take, List.map_drop]
    rfl
  | slip a d =>
    refine (seq_skip (lit (by decide +kernel))).trans ((seq_nx (asg_ev (ix_at (i := 1) rfl rfl rfl))).trans ((seq_skip (lit (by decide +kernel))).trans (ret_ev ?_)))
    have e1 := add_lst (sl_take (i := a) (m := eVar 0) (a := eVar 2) (δ := [some (rowD w h row), some (doD w h (.slip a d)), some (.int (a : Nat))]) (ah := ah) (l := row.map (dD w h)) rfl rfl) (frz_ev (lst_ev (cons_ev (ix_at (m := eVar 1) (l := [.str "slip", .int (a : Nat), dD w h d]) (i := 2) rfl rfl rfl) (nil_ev _ _)) (by simp))) (by simp; omega)
    have c1 : MM.e1 gInt (eBin gEq (eIx (eVar 1) (eC (.int 0))) (eC (.str "put"))) [some (rowD w h row), some (doD w h (.slip a d)), some (.int (a : Nat))] ah = some (.int 0, ah) := e1_ev (lit_eqE (b := false) (ix_at (i := 0) rfl rfl rfl) (by decide +kernel)) rfl
    have c2 := add_int (a := eVar 2) (δ := [some (rowD w h row), some (doD w h (.slip a d)), some (.int (a : Nat))]) (ah := ah) (i := (a : Nat)) rfl c1
    refine (add_lst e1 (sl_drop (i := a) (l := row.map (dD w h)) rfl (c2.trans (by rw [Int.add_zero]))) (by simp; omega)).trans ?_
    rw [rowD, rowBy, List.map_append, List.map_append, List.map_take, List.map_drop]
    rfl
end
end K88

set_option linter.all false
set_option maxRecDepth 100000
namespace K88
open PySem L2 MM
/-! ### the law's draws -/
def bagL (v0 v1 v2 : Int) (cs : List Int) : List D := [.int v0, .int v1, .int v2, .lst (cs.map .int)]
structure BagOk (v0 v1 v2 : Int) (cs : List Int) : Prop where
  a : 0 ≤ v0
  b : 0 ≤ v1
  c : 0 ≤ v2
  d : ∀ x ∈ cs, 0 ≤ x
def BagAt (ah : AH) (b : Nat) : Prop := ∃ v0 v1 v2 cs, ah[b]? = some (.lst (bagL v0 v1 v2 cs)) ∧ BagOk v0 v1 v2 cs
/-- only the bag has changed -/
def Bg (b : Nat) (ah ah' : AH) : Prop := BagAt ah b ∧ (ah' = ah ∨ ∃ v0 v1 v2 cs, BagOk v0 v1 v2 cs ∧ ah' = ah.set b (.lst (bagL v0 v1 v2 cs)))
theorem BagAt.lt {ah : AH} {b : Nat} (h : BagAt ah b) : b < ah.length := let ⟨_, _, _, _, e, _⟩ := h; (List.getElem?_eq_some_iff.mp e).1
theorem Bg.at' {b : Nat} {ah ah' : AH} (h : Bg b ah ah') : BagAt ah' b := by
  obtain ⟨h0, rfl | ⟨v0, v1, v2, cs, ok, rfl⟩⟩ := h
  · exact h0
  · exact ⟨v0, v1, v2, cs, List.getElem?_set_self h0.lt, ok⟩
theorem Bg.refl {b : Nat} {ah : AH} (h : BagAt ah b) : Bg b ah ah := ⟨h, .inl rfl⟩
theorem Bg.trans {b : Nat} {x y z : AH} (h1 : Bg b x y) (h2 : Bg b y z) : Bg b x z := by
  obtain ⟨h0, e1⟩ := h1
  obtain ⟨_, e2⟩ := h2
  refine ⟨h0, ?_⟩
  rcases e1 with rfl | ⟨v0, v1, v2, cs, ok, rfl⟩
  · exact e2
  · rcases e2 with rfl | ⟨w0, w1, w2, ds, ok2, rfl⟩
    · exact .inr ⟨_, _, _, _, ok, rfl⟩
    · exact .inr ⟨_, _, _, _, ok2, List.set_set ..⟩
theorem Bg.len {b : Nat} {x y : AH} (h : Bg b x y) : y.length = x.length := by
  obtain ⟨_, rfl | ⟨_, _, _, _, _, rfl⟩⟩ := h
  · rfl
  · rw [List.length_set]
theorem bag_bd (n : Nat) (v0 v1 v2 : Int) (cs : List Int) : D.bds n (bagL v0 v1 v2 cs) = true := by
  have : ∀ l : List Int, D.bds n (l.map D.int) = true := fun l => by
    induction l with
    | nil => rfl
    | cons a r ih => rw [List.map_cons, D.bds, ih]; rfl
  show (D.bd n (.int v0) && (D.bd n (.int v1) && (D.bd n (.int v2) && (D.bd n (.lst (cs.map .int)) && true)))) = true
  simp [D.bd, this]
theorem Bg.bd {b : Nat} {x y : AH} (h : Bg b x y) (hb : Bd x) : Bd y := by
  obtain ⟨_, rfl | ⟨_, _, _, _, _, rfl⟩⟩ := h
  · exact hb
  · exact hb.set (bag_bd ..)
theorem Bg.get {b i : Nat} {x y : AH} (h : Bg b x y) (hi : i ≠ b) : y[i]? = x[i]? := by
  obtain ⟨_, rfl | ⟨_, _, _, _, _, rfl⟩⟩ := h
  · rfl
  · exact List.getElem?_set_ne (Ne.symm hi)
theorem bag_ix {δ : DL} {ah : AH} {b i : Nat} {l : List D} {d : D} (v0 : δ[0]? = some (some (.ptr b))) (hl : ah[b]? = some (.lst l)) (e : l[i]? = some d) : eIx (eVar 0) (eC (.int (i : Nat))) δ ah = some (d, ah) := by
  refine bin_ev (var_ev v0) rfl ?_
  have hK : asK ah (.ptr b) = none := by simp [asK, hl]
  have hL : asL ah (.ptr b) = some l := by simp [asL, hl]
  have hi := (List.getElem?_eq_some_iff.mp e).1
  unfold gIx
  rw [hK]
  show (asL ah (.ptr b)).bind (fun l => atI l (i : Nat)) = _
  rw [hL, Option.bind_some, atI, ixN, if_pos (by omega), if_pos (by omega), Option.bind_some, Int.toNat_natCast, e]
theorem subL_ev {δ : DL} {ah : AH} {b i : Nat} {l : List D} {d : D} {m : ME} (v0 : δ[0]? = some (some (.ptr b))) (hl : ah[b]? = some (.lst l)) (hi : i < l.length) (hm : m δ ah = some (d, ah)) : sSubL (eVar 0) (eC (.int (i : Nat))) m δ ah = some (.nx δ, ah.set b (.lst (l.set i d))) := by
  have e : lstAt ah b = some l := by simp [lstAt, hl]
  unfold sSubL
  rw [hm, Option.bind_some, var_ev v0, Option.bind_some]
  show (Option.bind (some (D.int (i : Nat), ah)) _) = _
  rw [Option.bind_some]
  simp only [e, Option.bind_some, ixN]
  rw [if_pos (by omega), if_pos (by omega), Option.map_some, Int.toNat_natCast]
theorem augL_ev {δ : DL} {ah : AH} {b i : Nat} {l : List D} {x y : Int} (v0 : δ[0]? = some (some (.ptr b))) (hl : ah[b]? = some (.lst l)) (hi : l[i]? = some (.int x)) : sAugL (eVar 0) (eC (.int (i : Nat))) (eC (.int y)) δ ah = some (.nx δ, ah.set b (.lst (l.set i (.int (x + y))))) := by
  have e : lstAt ah b = some l := by simp [lstAt, hl]
  have hlt := (List.getElem?_eq_some_iff.mp hi).1
  have a : atI l (i : Nat) = some (.int x) := by rw [atI, ixN, if_pos (by omega), if_pos (by omega), Option.bind_some, Int.toNat_natCast, hi]
  have j : ixN l.length (i : Nat) = some i := by rw [ixN, if_pos (by omega), if_pos (by omega), Int.toNat_natCast]
  unfold sAugL
  rw [var_ev v0, Option.bind_some]
  show (Option.bind (some (D.int (i : Nat), ah)) _) = _
  rw [Option.bind_some]
  simp only [e, a, Option.bind_some]
  show (Option.bind (some (D.int y, ah)) _) = _
  rw [Option.bind_some]
  simp only [e, j, Option.bind_some, Option.map_some]
theorem mod_ev {a b : ME} {δ : DL} {ah ah1 ah2 : AH} {i j : Int} (h1 : a δ ah = some (.int i, ah1)) (h2 : b δ ah1 = some (.int j, ah2)) (hj : 0 < j) : eBin gMod a b δ ah = some (.int (i % j), ah2) := bin_ev h1 h2 (by simp [gIc, hj])
theorem mul_ev {a b : ME} {δ : DL} {ah ah1 ah2 : AH} {i j : Int} (h1 : a δ ah = some (.int i, ah1)) (h2 : b δ ah1 = some (.int j, ah2)) (hj : (-(2 ^ 64) < i ∧ i < 2 ^ 64) ∨ (-(2 ^ 64) < j ∧ j < 2 ^ 64)) : eBin gMul a b δ ah = some (.int (i * j), ah2) := bin_ev h1 h2 (by simp only [gMul]; rw [if_pos hj])
theorem div_ev {a b : ME} {δ : DL} {ah ah1 ah2 : AH} {i j : Int} (h1 : a δ ah = some (.int i, ah1)) (h2 : b δ ah1 = some (.int j, ah2)) (hj : 0 < j) (hj2 : j < 2 ^ 30) : eBin gDiv a b δ ah = some (.int (i / j), ah2) := by
  refine bin_ev h1 h2 ?_
  have : j.natAbs.log2 < 9000 := by
    rw [Nat.log2_lt (by omega)]
    exact Nat.lt_of_lt_of_le (show j.natAbs < 2 ^ 30 by omega) (Nat.pow_le_pow_right (by decide) (by decide))
  simp [gIc, hj, this]
theorem ev_take {ah : AH} {b : Nat} {many : Int} (hb : BagAt ah b) (h0 : 1 ≤ many) (h1 : many ≤ 1000) : ∃ r ah', f__law_take [.ptr b, .int many] ah = some (.int r, ah') ∧ 0 ≤ r ∧ r < many ∧ Bg b ah ah' := by
  obtain ⟨v0, v1, v2, cs, e, ok⟩ := id hb
  have lt := hb.lt
  -- the first part
  have part : ∃ x v0' v1' v2', 0 ≤ v0' ∧ 0 ≤ v1' ∧ 0 ≤ v2' ∧ (sIf (tOf (eBin gEq (eIx (eVar 0) (eC (.int 0))) (eC (.int 0)))) (sSeq (sAsg (tgN 4) (eC (.int 0))) (sSeq (sIf (tOf (eBin gLt (eIx (eVar 0) (eC (.int 2))) (e1 gLen (eIx (eVar 0) (eC (.int 3)))))) (sAsg (tgN 4) (eIx (eIx (eVar 0) (eC (.int 3))) (eIx (eVar 0) (eC (.int 2))))) sNil) (sSeq (sAugL (eVar 0) (eC (.int 2)) (eC (.int 1))) (sSeq (sIf (tOf (eBin gGe (eVar 4) (eC (.int 1000000000000000000)))) (sSubL (eVar 0) (eC (.int 0)) (eVar 4)) sNil) (sSubL (eVar 0) (eC (.int 1)) (eBin gMod (eBin gAdd (eBin gAdd (eBin gMul (eIx (eVar 0) (eC (.int 1))) (eC (.int 48271))) (eBin gMod (eVar 4) (eC (.int 2147483647)))) (eBin gMul (eC (.int 7919)) (eIx (eVar 0) (eC (.int 2))))) (eC (.int 2147483647)))))))) sNil) [some (.ptr b), some (.int many), none, none, none, none] ah = some (.nx [some (.ptr b), some (.int many), none, none, x, none], ah.set b (.lst (bagL v0' v1' v2' cs))) := by
    have t0 : tOf (eBin gEq (eIx (eVar 0) (eC (.int 0))) (eC (.int 0))) [some (.ptr b), some (.int many), none, none, none, none] ah = some (decide (v0 = 0), ah) := tof_ev (bin_ev (bag_ix (i := 0) rfl e rfl) rfl rfl)
    by_cases hv : v0 = 0
    · have c1 : ∃ c : Int, 0 ≤ c ∧ sIf (tOf (eBin gLt (eIx (eVar 0) (eC (.int 2))) (e1 gLen (eIx (eVar 0) (eC (.int 3)))))) (sAsg (tgN 4) (eIx (eIx (eVar 0) (eC (.int 3))) (eIx (eVar 0) (eC (.int 2))))) sNil [some (.ptr b), some (.int many), none, none, some (.int 0), none] ah = some (.nx [some (.ptr b), some (.int many), none, none, some (.int c), none], ah) := by
        have ln := len_lst (bag_ix (δ := [some (.ptr b), some (.int many), none, none, some (.int 0), none]) (i := 3) rfl e rfl)
        rw [List.length_map] at ln
        have t : tOf (eBin gLt (eIx (eVar 0) (eC (.int 2))) (e1 gLen (eIx (eVar 0) (eC (.int 3))))) [some (.ptr b), some (.int many), none, none, some (.int 0), none] ah = some (decide (v2 < (cs.length : Nat)), ah) := tof_ev (bin_ev (bag_ix (i := 2) rfl e rfl) ln rfl)
        by_cases hc : v2 < (cs.length : Nat)
        · have hv2 := ok.c
          have hn : v2.toNat < cs.length := by omega
          have iv : eIx (eVar 0) (eC (.int 2)) [some (.ptr b), some (.int many), none, none, some (.int 0), none] ah = some (.int (v2.toNat : Nat), ah) := (bag_ix (i := 2) rfl e rfl).trans (by rw [Int.toNat_of_nonneg hv2])
          refine ⟨cs[v2.toNat], ok.d _ (List.getElem_mem hn), ?_⟩
          rw [decide_eq_true hc] at t
          exact (if_t t).trans (asg_ev (ix_lst (i := v2.toNat) (bag_ix (i := 3) rfl e rfl) iv (by simp [hn])))
        · rw [decide_eq_false hc] at t
          exact ⟨0, Int.le_refl _, (if_f t).trans rfl⟩
      obtain ⟨c, hc, c1⟩ := c1
      rw [decide_eq_true hv] at t0
      have a1 := augL_ev (δ := [some (.ptr b), some (.int many), none, none, some (.int c), none]) (b := b) (i := 2) (y := 1) rfl e rfl
      have g1 : (ah.set b (.lst ((bagL v0 v1 v2 cs).set 2 (.int (v2 + 1)))))[b]? = some (.lst (bagL v0 v1 (v2 + 1) cs)) := List.getElem?_set_self lt
      have c2 : ∃ v0', 0 ≤ v0' ∧ sIf (tOf (eBin gGe (eVar 4) (eC (.int 1000000000000000000)))) (sSubL (eVar 0) (eC (.int 0)) (eVar 4)) sNil [some (.ptr b), some (.int many), none, none, some (.int c), none] (ah.set b (.lst ((bagL v0 v1 v2 cs).set 2 (.int (v2 + 1))))) = some (.nx [some (.ptr b), some (.int many), none, none, some (.int c), none], ah.set b (.lst (bagL v0' v1 (v2 + 1) cs))) := by
        have t : tOf (eBin gGe (eVar 4) (eC (.int 1000000000000000000))) [some (.ptr b), some (.int many), none, none, some (.int c), none] (ah.set b (.lst ((bagL v0 v1 v2 cs).set 2 (.int (v2 + 1))))) = some (decide ((1000000000000000000 : Int) ≤ c), (ah.set b (.lst ((bagL v0 v1 v2 cs).set 2 (.int (v2 + 1)))))) := tof_ev (bin_ev (x := .int c) rfl rfl rfl)
        by_cases hg : (1000000000000000000 : Int) ≤ c
        · rw [decide_eq_true hg] at t
          refine ⟨c, hc, (if_t t).trans ((subL_ev (i := 0) rfl g1 (by simp [bagL]) rfl).trans ?_)⟩
          rw [List.set_set]
          rfl
        · rw [decide_eq_false hg] at t
          exact ⟨v0, ok.a, (if_f t).trans rfl⟩
      obtain ⟨v0', hv0', c2⟩ := c2
      have g2 : (ah.set b (.lst (bagL v0' v1 (v2 + 1) cs)))[b]? = some (.lst (bagL v0' v1 (v2 + 1) cs)) := List.getElem?_set_self lt
      have m1 := mod_ev (add_int (add_int (mul_ev (bag_ix (δ := [some (.ptr b), some (.int many), none, none, some (.int c), none]) (i := 1) rfl g2 rfl) (b := eC (.int 48271)) rfl (.inr (by decide))) (mod_ev (a := eVar 4) (i := c) (b := eC (.int 2147483647)) rfl rfl (by decide))) (mul_ev (a := eC (.int 7919)) rfl (bag_ix (i := 2) rfl g2 rfl) (.inl (by decide)))) (b := eC (.int 2147483647)) rfl (by decide)
      refine ⟨some (.int c), v0', (v1 * 48271 + c % 2147483647 + 7919 * (v2 + 1)) % 2147483647, v2 + 1, hv0', Int.emod_nonneg _ (by decide), by have := ok.c; omega, (if_t t0).trans ((seq_nx (asg_ev rfl)).trans ((seq_nx c1).trans ((seq_nx a1).trans ((seq_nx c2).trans ((subL_ev (i := 1) rfl g2 (by simp [bagL]) m1).trans ?_)))))⟩
      rw [List.set_set]
      rfl
    · rw [decide_eq_false hv] at t0
      refine ⟨none, v0, v1, v2, ok.a, ok.b, ok.c, (nil_t t0).trans ?_⟩
      congr 2
      exact (List.ext_getElem? fun i => by
        by_cases hi : b = i
        · subst hi
          rw [List.getElem?_set_self lt, e]
        · rw [List.getElem?_set_ne hi])
  obtain ⟨x, w0, w1, w2, p0, p1, p2, part⟩ := part
  have g : (ah.set b (.lst (bagL w0 w1 w2 cs)))[b]? = some (.lst (bagL w0 w1 w2 cs)) := List.getElem?_set_self lt
  have t3 : tOf (eBin gGt (eIx (eVar 0) (eC (.int 0))) (eC (.int 0))) [some (.ptr b), some (.int many), none, none, x, none] (ah.set b (.lst (bagL w0 w1 w2 cs))) = some (decide (0 < w0), (ah.set b (.lst (bagL w0 w1 w2 cs)))) := tof_ev (bin_ev (bag_ix (i := 0) rfl g rfl) rfl rfl)
  by_cases hw : 0 < w0
  · rw [decide_eq_true hw] at t3
    have whole : s__law_take [some (.ptr b), some (.int many), none, none, none, none] ah = some (.rt (.int (w0 % many)), ah.set b (.lst (bagL (w0 / many) w1 w2 cs))) := by
      unfold s__law_take
      refine (seq_nx part).trans (seq_take t3 ?_)
      refine (seq_nx (asg_ev (mod_ev (bag_ix (i := 0) rfl g rfl) (b := eVar 1) (j := many) rfl (by omega)))).trans ?_
      have sb := subL_ev (δ := [some (.ptr b), some (.int many), none, none, x, some (.int (w0 % many))]) (i := 0) rfl g (by simp [bagL]) (div_ev (bag_ix (i := 0) rfl g rfl) (b := eVar 1) (j := many) rfl (by omega) (by omega))
      rw [List.set_set] at sb
      exact (seq_nx sb).trans (ret_ev (d := .int (w0 % many)) rfl)
    exact ⟨w0 % many, _, (fn_rt rfl whole).trans (congrArg some (trim_len0 (List.length_set ..))), Int.emod_nonneg _ (by omega), Int.emod_lt_of_pos _ (by omega), hb, .inr ⟨_, _, _, _, ⟨Int.ediv_nonneg (by omega) (by omega), p1, p2, ok.d⟩, rfl⟩⟩
  · rw [decide_eq_false hw] at t3
    have f1 := mod_ev (mul_ev (add_int (bag_ix (δ := [some (.ptr b), some (.int many), none, none, x, none]) (i := 1) rfl g rfl) (b := eC (.int 1)) rfl) (b := eC (.int 39373)) rfl (.inr (by decide))) (b := eC (.int 1000000007)) rfl (by decide)
    generalize hf : (w1 + 1) * 39373 % 1000000007 = fst at f1
    have hf0 : 0 ≤ fst := by rw [← hf]; exact Int.emod_nonneg _ (by decide)
    have hf1 : fst < 1000000007 := by rw [← hf]; exact Int.emod_lt_of_pos _ (by decide)
    have s1 := mod_ev (mul_ev (mod_ev (mul_ev (a := eVar 2) (b := eVar 2) (i := fst) (j := fst) (δ := [some (.ptr b), some (.int many), some (.int fst), none, x, none]) (ah := ah.set b (.lst (bagL w0 w1 w2 cs))) rfl rfl (.inl ⟨by omega, by omega⟩)) (b := eC (.int 998244353)) rfl (by decide)) (b := eC (.int 30011)) rfl (.inr (by decide))) (b := eC (.int 998244353)) rfl (by decide)
    generalize hs2 : fst * fst % 998244353 * 30011 % 998244353 = snd at s1
    have t5 : tOf (eBin gGt (eVar 1) (eC (.int 1000000))) [some (.ptr b), some (.int many), some (.int fst), some (.int snd), x, none] (ah.set b (.lst (bagL w0 w1 w2 cs))) = some (false, ah.set b (.lst (bagL w0 w1 w2 cs))) := by
      refine tof_ev (bin_ev (x := .int many) rfl rfl ?_)
      show some (D.bl (decide ((1000000 : Int) < many))) = _
      rw [decide_eq_false (by omega)]
    have whole : s__law_take [some (.ptr b), some (.int many), none, none, none, none] ah = some (.rt (.int (snd / 7 % many)), ah.set b (.lst (bagL w0 w1 w2 cs))) := by
      unfold s__law_take
      refine (seq_nx part).trans ((seq_skip t3).trans ((seq_nx (asg_ev f1)).trans ((seq_nx (asg_ev s1)).trans ((seq_skip t5).trans (ret_ev ?_)))))
      exact mod_ev (div_ev (a := eVar 3) (i := snd) (b := eC (.int 7)) rfl rfl (by decide) (by decide)) (b := eVar 1) (j := many) rfl (by omega)
    exact ⟨snd / 7 % many, _, (fn_rt rfl whole).trans (congrArg some (trim_len0 (List.length_set ..))), Int.emod_nonneg _ (by omega), Int.emod_lt_of_pos _ (by omega), hb, .inr ⟨_, _, _, _, ⟨p0, p1, p2, ok.d⟩, rfl⟩⟩
end K88

set_option linter.all false
set_option maxRecDepth 100000
namespace K88
open PySem L2 MM
/-! ### bag, box, turnings, face -/
theorem take_ev {δ : DL} {ah : AH} {b i : Nat} {m : ME} {many : Int} (hb : BagAt ah b) (v : δ[i]? = some (some (.ptr b))) (hm : m δ ah = some (.int many, ah)) (h0 : 1 ≤ many) (h1 : many ≤ 1000) : ∃ (r : Nat) (ah' : AH), eCall f__law_take (aCons (eVar i) (aCons m aNil)) δ ah = some (.int (r : Nat), ah') ∧ (r : Int) < many ∧ Bg b ah ah' := by
  obtain ⟨r, ah', e, p, q, g⟩ := ev_take hb h0 h1
  refine ⟨r.toNat, ah', ?_, by omega, g⟩
  rw [Int.toNat_of_nonneg p]
  exact (call_ev (cons_ev (var_ev v) (cons_ev hm (nil_ev _ _)))).trans e
theorem ev_lbag (ns : List Int) (hn : ns.length ≤ 63) : ∃ cs, f__law_bag [.scr (ns.map .int)] [] = some (.ptr 0, [.lst (bagL 0 1234567891 0 cs)]) ∧ BagOk 0 1234567891 0 cs := by
  have e1 : eSl (eVar 0) oNone (oSome (eC (.int 63))) [some (.scr (ns.map .int)), none] [] = some (.lst (ns.map .int), []) := by
    have a1 : eSlice (eVar 0) oNone (oSome (eC (.int 63))) [some (.scr (ns.map .int)), none] [] = none := rfl
    have a2 : fSlice (eVar 0) oNone (oSome (eC (.int 63))) [some (.scr (ns.map .int)), none] [] = some (ns.map .int, []) := by
      show some (cutL (ns.map D.int) none (some ((63 : Nat) : Int)), _) = _
      unfold cutL
      rw [HT.sIx_none, HT.sIx_nat, List.drop_zero, Nat.sub_zero, List.length_map, Nat.min_eq_right hn, ← List.length_map (f := D.int), List.take_length]
    unfold eSl orE
    rw [a1]
    exact frz_ev a2
  have e2 : compGo (tgN 1) tYesM (MM.e1 gAbs (eVar 1)) [some (.scr (ns.map .int)), none] (ns.map .int) [] = some (ns.map (fun i => D.int (if i < 0 then -i else i)), []) :=
    compGo_map (i := fun i : Int => D.int i) fun i hi => ⟨[some (.scr (ns.map .int)), some (.int i)], rfl, rfl, rfl⟩
  have hs : s__law_bag [some (.scr (ns.map .int)), none] [] = some (.rt (.ptr 0), [.lst (bagL 0 1234567891 0 (ns.map fun i => if i < 0 then -i else i))]) := by
    unfold s__law_bag
    refine ret_ev ((own_ev (lst_ev (cons_ev rfl (cons_ev rfl (cons_ev rfl (cons_ev (frz_ev ((comp_ev (iAny_lst e1) (by simp; omega)).trans e2)) (nil_ev _ _))))) (by simp))).trans ?_)
    unfold bagL
    rw [List.map_map]
    rfl
  refine ⟨_, (fn_rt rfl hs).trans (congrArg some (trim_ptr (Nat.le_refl _))), Int.le_refl _, by decide, Int.le_refl _, fun x hx => ?_⟩
  obtain ⟨i, -, rfl⟩ := List.mem_map.mp hx
  split <;> omega
theorem idx3 {l : List D} {m a : ME} {δ : DL} {ah ah1 ah2 : AH} {i : Nat} {d : D} (h : m δ ah = some (.lst l, ah1)) (ha : a δ ah1 = some (.int (i : Nat), ah2)) (e : l[i]? = some d) : eIx m a δ ah = some (d, ah2) := by
  refine bin_ev h ha ?_
  have hi := (List.getElem?_eq_some_iff.mp e).1
  show (some l).bind (fun l => atI l (i : Nat)) = _
  rw [Option.bind_some, atI, ixN, if_pos (by omega), if_pos (by omega), Option.bind_some, Int.toNat_natCast, e]
theorem ev_box {ah : AH} {b : Nat} (hb : BagAt ah b) : ∃ (w h : Nat) (ah' : AH), f__law_box [.ptr b, .int 3] ah = some (.tup [.int w, .int h], ah') ∧ 1 ≤ w ∧ w ≤ 3 ∧ 1 ≤ h ∧ h ≤ 3 ∧ Bg b ah ah' := by
  obtain ⟨r1, ah1, t1, l1, g1⟩ := take_ev (δ := [some (.ptr b), some (.int 3), none]) (i := 0) (m := eVar 1) hb rfl rfl (many := 3) (by decide) (by decide)
  obtain ⟨r2, ah2, t2, l2, g2⟩ := take_ev (δ := [some (.ptr b), some (.int 3), some (.int ((r1 + 1 : Nat) : Int))]) (i := 0) (m := eVar 1) g1.at' rfl rfl (many := 3) (by decide) (by decide)
  obtain ⟨r3, ah3, t3, l3, g3⟩ := take_ev (δ := [some (.ptr b), some (.int 3), some (.int ((r1 + 1 : Nat) : Int))]) (i := 0) (m := eC (.int 3)) g2.at' rfl rfl (many := 3) (by decide) (by decide)
  have p1 : eBin gAdd (eC (.int 1)) (eCall f__law_take (aCons (eVar 0) (aCons (eVar 1) aNil))) [some (.ptr b), some (.int 3), none] ah = some (.int ((r1 + 1 : Nat) : Int), ah1) := (add_int rfl t1).trans (by rw [Int.natCast_succ, Int.add_comm])
  have p2 : eBin gAdd (eC (.int 1)) (eCall f__law_take (aCons (eVar 0) (aCons (eVar 1) aNil))) [some (.ptr b), some (.int 3), some (.int ((r1 + 1 : Nat) : Int))] ah1 = some (.int ((r2 + 1 : Nat) : Int), ah2) := (add_int rfl t2).trans (by rw [Int.natCast_succ, Int.add_comm])
  have p3 : ∃ h : Nat, 1 ≤ h ∧ h ≤ 3 ∧ [D.int ((r1 + 1 : Nat) : Int), .int ((r1 + 1 : Nat) : Int), .int ((r2 + 1 : Nat) : Int)][r3]? = some (.int h) := by
    match r3, l3 with
    | 0, _ => exact ⟨r1 + 1, by omega, by omega, rfl⟩
    | 1, _ => exact ⟨r1 + 1, by omega, by omega, rfl⟩
    | 2, _ => exact ⟨r2 + 1, by omega, by omega, rfl⟩
    | n + 3, l => omega
  obtain ⟨h, h1, h2, p3⟩ := p3
  have hs : s__law_box [some (.ptr b), some (.int 3), none] ah = some (.rt (.tup [.int ((r1 + 1 : Nat) : Int), .int h]), ah3) := by
    unfold s__law_box
    refine (seq_nx (asg_ev p1)).trans (ret_ev (tup_ev (cons_ev (var_ev rfl) (cons_ev (idx3 (frz_ev (lst_ev (cons_ev (var_ev rfl) (cons_ev (var_ev rfl) (cons_ev p2 (nil_ev _ _)))) (by simp))) t3 p3) (nil_ev _ _))) (by simp)))
  have g := g1.trans (g2.trans g3)
  exact ⟨r1 + 1, h, ah3, (fn_rt rfl hs).trans (congrArg some (trim_len0 g.len)), by omega, by omega, h1, h2, g⟩
def allT (sq : Bool) : List (Bool × Nat) := if sq = true then [(true, 0), (true, 1), (true, 2), (true, 3), (false, 0), (false, 1), (false, 2), (false, 3)] else [(true, 0), (true, 2), (false, 0), (false, 2)]
theorem ev_lturnings (w h : Nat) (ah : AH) : f__law_turnings [.tup [.int w, .int h]] ah = some (.lst ((allT (decide (w = h))).map fun t => .str (tz t.1 t.2)), ah) := by
  have t0 : tOf (eBin gEq (eIx (eVar 0) (eC (.int 0))) (eIx (eVar 0) (eC (.int 1)))) [some (.tup [.int w, .int h])] ah = some (decide (w = h), ah) := by
    refine tof_ev (bin_ev (ix_at (i := 0) rfl rfl rfl) (ix_at (i := 1) rfl rfl rfl) ?_)
    show some (D.bl (decide ((w : Int) = (h : Int)))) = _
    by_cases e : w = h
    · simp [e]
    · rw [decide_eq_false e, decide_eq_false (by omega)]
  have hs : s__law_turnings [some (.tup [.int w, .int h])] ah = some (.rt (.lst ((allT (decide (w = h))).map fun t => .str (tz t.1 t.2))), ah) := by
    unfold s__law_turnings
    cases e : decide (w = h) with
    | true => 
      rw [e] at t0
      exact seq_take t0 rfl
    | false => 
      rw [e] at t0
      exact (seq_skip t0).trans rfl
  exact (fn_rt rfl hs).trans (by rw [trim_self])
end K88

set_option linter.all false
set_option maxRecDepth 100000
namespace K88
open PySem L2 MM
theorem all2_fn {α β : Type} [Inhabited β] {F : β → D} : ∀ {l : List α} {ds : List D}, All2 (fun _ d => ∃ c, d = F c) l ds → ∃ f : Nat → β, ds = (List.range l.length).map fun i => F (f i) := by
  intro l ds h
  have k : ∃ cs : List β, ds = cs.map F ∧ cs.length = l.length := by
    induction h with
    | nil => exact ⟨[], rfl, rfl⟩
    | cons h1 _ ih =>
      obtain ⟨c, rfl⟩ := h1
      obtain ⟨cs, rfl, e⟩ := ih
      exact ⟨c :: cs, rfl, by rw [List.length_cons, List.length_cons, e]⟩
  obtain ⟨cs, rfl, e⟩ := k
  refine ⟨fun i => cs.getD i default, ?_⟩
  refine List.ext_getElem (by simp [e]) fun i h1 h2 => ?_
  have hi : i < cs.length := by simpa using h1
  simp [hi]
def BgR (b : Nat) (x y : AH) : Prop := BagAt x b → Bg b x y
theorem BgR.rf {b : Nat} (x : AH) : BgR b x x := fun h => Bg.refl h
theorem BgR.tr {b : Nat} (x y z : AH) (h1 : BgR b x y) (h2 : BgR b y z) : BgR b x z := fun h => (h1 h).trans (h2 (h1 h).at')
def nrm (w h : Nat) (c : Cell) : Cell := fun x y => decide (x < w ∧ y < h) && c x y
theorem fD_nrm (w h : Nat) (c : Cell) : fD w h c = fD w h (nrm w h c) := fD_congr fun x y hx hy => by rw [nrm, decide_eq_true ⟨hx, hy⟩, Bool.true_and]
theorem nrm_out {w h : Nat} {c : Cell} {x y : Nat} (e : ¬ (x < w ∧ y < h)) : nrm w h c x y = false := by rw [nrm, decide_eq_false e, Bool.false_and]
def rowsD (w h : Nat) (c : Cell) : List D := (List.range h).map fun y => .str (rowS w fun x => c x y)
theorem dots (w : Nat) : repS "." (w : Nat) = rowS w fun _ => false := by
  have : ∀ n, (List.replicate n [46]).flatten = (List.range n).map fun _ => 46 := fun n => by
    rw [List.map_const', List.length_range]
    induction n with
    | zero => rfl
    | succ n ih => rw [List.replicate_succ, List.flatten_cons, ih]; rfl
  show (⟨((List.replicate ((w : Nat) : Int).toNat [46]).flatten).toArray⟩ : Str) = _
  rw [Int.toNat_natCast, this]
  rfl
theorem many1 {α : Type} (x : α) (n : Nat) : (List.replicate n [x]).flatten = (List.range n).map fun _ => x := by
  rw [List.map_const', List.length_range]
  induction n with
  | zero => rfl
  | succ n ih => rw [List.replicate_succ, List.flatten_cons, ih]; rfl
/-- [["." * w]] * h -/
theorem flat_ev {δ : DL} {ah : AH} {w h k : Nat} (hw : w ≤ 6) (hh : h ≤ 6) (v1 : δ[k]? = some (some (.tup [.int w, .int h]))) : eBin gMul (eFrz (fLst (aCons (eBin gMul (eC (.str ".")) (eIx (eVar k) (eC (.int 0)))) aNil))) (eIx (eVar k) (eC (.int 1))) δ ah = some (.lst (rowsD w h fun _ _ => false), ah) := by
  have a1 : eBin gMul (eC (.str ".")) (eIx (eVar k) (eC (.int 0))) δ ah = some (.str (rowS w fun _ => false), ah) := by
    refine bin_ev (x := .str ".") rfl (ix_at (i := 0) (var_ev v1) rfl rfl) ?_
    show (if (0 : Int) ≤ (w : Nat) ∧ ((w : Nat) : Int) ≤ 1000 ∧ (1 : Nat) ≤ 1000 then some (D.str (repS "." (w : Nat))) else none) = _
    rw [if_pos ⟨by omega, by omega, by omega⟩, dots]
  refine bin_ev (frz_ev (lst_ev (cons_ev a1 (nil_ev _ _)) (by simp))) (ix_at (i := 1) (var_ev v1) rfl rfl) ?_
  show (some [D.str (rowS w fun _ => false)]).bind (fun l => if (0 : Int) ≤ (h : Nat) ∧ ((h : Nat) : Int) ≤ 1000 ∧ l.length ≤ 1000 then some (D.lst (List.replicate ((h : Nat) : Int).toNat l).flatten) else none) = _
  rw [Option.bind_some, if_pos ⟨by omega, by omega, by simp⟩, Int.toNat_natCast, many1]
  rfl
section
variable {b w h : Nat}
theorem row_draw {δ : DL} {ah : AH} {part : Int} (hw : w ≤ 6) (hb : BagAt ah b) (v0 : δ[0]? = some (some (.ptr b))) (v1 : δ[1]? = some (some (.tup [.int w, .int h]))) (v2 : δ[2]? = some (some (.int part))) (p1 : 1 ≤ part) (p2 : part ≤ 9) :
    ∃ (f : Nat → Bool) (ah' : AH), eJoin (eC (.str "")) (eFrz (fComp (iRng1M (eIx (eVar 1) (eC (.int 0)))) (tgN 6) tYesM (eIx (eC (.str ".o")) (e1 gInt (eBin gEq (eCall f__law_take (aCons (eVar 0) (aCons (eVar 2) aNil))) (eC (.int 0))))) [6])) δ ah = some (.str (rowS w f), ah') ∧ BgR b ah ah' := by
  have wp : ∀ i, i ≠ 6 → ∀ x, ((wipeD δ [6]).set 6 x)[i]? = δ[i]? := fun i hi x => (get_set_ne (Ne.symm hi)).trans (wipe_get_ne (by simpa using hi))
  obtain ⟨ds, ah', e, r, a2⟩ := compGo_rel (g := tgN 6) (e := eIx (eC (.str ".o")) (e1 gInt (eBin gEq (eCall f__law_take (aCons (eVar 0) (aCons (eVar 2) aNil))) (eC (.int 0))))) (δ := wipeD δ [6]) (i := fun x : Nat => D.int (x : Nat)) (P := fun _ d => ∃ c : Bool, d = .str ⟨#[sg c]⟩) (R := BgR b) BgR.rf BgR.tr (l := List.range w) (ah := ah) fun x _ ah1 hr => by
    have hb1 := (hr hb).at'
    obtain ⟨r, ah2, t, l, g⟩ := take_ev (δ := (wipeD δ [6]).set 6 (some (.int (x : Nat)))) (i := 0) (m := eVar 2) hb1 (by rw [wp 0 (by decide)]; exact v0) (var_ev (by rw [wp 2 (by decide)]; exact v2)) p1 (by omega)
    refine ⟨_, .str ⟨#[sg (decide (r = 0))]⟩, ah2, rfl, ix_o (bin_ev t rfl ?_), fun _ => g, _, rfl⟩
    show some (D.bl (decide ((r : Int) = 0))) = _
    by_cases e : r = 0
    · simp [e]
    · rw [decide_eq_false e, decide_eq_false (by omega)]
  obtain ⟨f, hf⟩ := all2_fn (F := fun c : Bool => D.str ⟨#[sg c]⟩) a2
  rw [List.length_range] at hf
  subst hf
  refine ⟨f, ah', (join_ev (f := fun x => sg (f x)) rfl (frz_ev ((comp_ev (rng1 (ix_at (i := 0) (var_ev v1) rfl rfl) (by omega)) (by simp; omega)).trans e)) (by simp; omega)).trans rfl, r⟩
theorem row_at {δ : DL} {ah : AH} {y a c : Nat} (hw : w ≤ 6) (v1 : δ[1]? = some (some (.tup [.int w, .int h]))) (v4 : δ[4]? = some (some (.tup [.int a, .int c]))) (v5 : δ[5]? = some (some (.int (y : Nat)))) (hl : 6 < δ.length) :
    eJoin (eC (.str "")) (eFrz (fComp (iRng1M (eIx (eVar 1) (eC (.int 0)))) (tgN 6) tYesM (eIx (eC (.str ".o")) (e1 gInt (eBin gEq (eTup (aCons (eVar 6) (aCons (eVar 5) aNil))) (eVar 4)))) [6])) δ ah = some (.str (rowS w fun x => decide (x = a) && decide (y = c)), ah) := by
  have wp : ∀ i, i ≠ 6 → ∀ x, ((wipeD δ [6]).set 6 x)[i]? = δ[i]? := fun i hi x => (get_set_ne (Ne.symm hi)).trans (wipe_get_ne (by simpa using hi))
  have e : compGo (tgN 6) tYesM (eIx (eC (.str ".o")) (e1 gInt (eBin gEq (eTup (aCons (eVar 6) (aCons (eVar 5) aNil))) (eVar 4)))) (wipeD δ [6]) ((List.range w).map fun i => .int (i : Nat)) ah = some ((List.range w).map (fun x => D.str ⟨#[sg (decide (x = a) && decide (y = c))]⟩), ah) :=
    compGo_map (i := fun x : Nat => D.int (x : Nat)) fun x hx => ⟨(wipeD δ [6]).set 6 (some (.int (x : Nat))), rfl, rfl, ix_o (bin_ev (tup_ev (cons_ev (var_ev (get_set (by rw [wipe_len]; exact hl))) (cons_ev (var_ev ((wp 5 (by decide) _).trans v5)) (nil_ev _ _))) (by simp)) (var_ev ((wp 4 (by decide) _).trans v4)) (by
      unfold gEq
      rw [dEq_pb (n := 2) (by decide) rfl rfl, Option.map_some]
      refine congrArg (fun b => some (D.bl b)) ?_
      rw [← Bool.decide_and]
      exact decide_eq_decide.mpr (by simp; omega)))⟩
  exact (join_ev (f := fun x => sg (decide (x = a) && decide (y = c))) rfl (frz_ev ((comp_ev (rng1 (ix_at (i := 0) (var_ev v1) rfl rfl) (by omega)) (by simp; omega)).trans e)) (by simp; omega)).trans rfl
theorem ev_lface {ah : AH} (w1 : 1 ≤ w) (hw : w ≤ 6) (h1 : 1 ≤ h) (hh : h ≤ 6) (hb : BagAt ah b) : ∃ (c : Cell) (ah' : AH), f__law_face [.ptr b, .tup [.int w, .int h]] ah = some (fD w h c, ah') ∧ (∀ x y, ¬ (x < w ∧ y < h) → c x y = false) ∧ Bg b ah ah' := by
  obtain ⟨r1, ah1, t1, l1, g1⟩ := take_ev (δ := [some (.ptr b), some (.tup [.int w, .int h]), none, none, none, none, none]) (i := 0) (m := eC (.int 6)) hb rfl rfl (many := 6) (by decide) (by decide)
  have p : ∃ part : Int, 1 ≤ part ∧ part ≤ 9 ∧ [D.int 9, .int 5, .int 3, .int 2, .int 2, .int 1][r1]? = some (.int part) := by
    match r1, l1 with
    | 0, _ => exact ⟨9, by omega, by omega, rfl⟩
    | 1, _ => exact ⟨5, by omega, by omega, rfl⟩
    | 2, _ => exact ⟨3, by omega, by omega, rfl⟩
    | 3, _ => exact ⟨2, by omega, by omega, rfl⟩
    | 4, _ => exact ⟨2, by omega, by omega, rfl⟩
    | 5, _ => exact ⟨1, by omega, by omega, rfl⟩
    | n + 6, l => omega
  obtain ⟨part, p1, p2, p⟩ := p
  have s1 := asg_ev (i := 2) (idx3 (frz_ev (lst_ev (cons_ev (ah := ah) (ah1 := ah) (a := eC (.int 9)) (δ := [some (.ptr b), some (.tup [.int w, .int h]), none, none, none, none, none]) rfl (cons_ev (a := eC (.int 5)) rfl (cons_ev (a := eC (.int 3)) rfl (cons_ev (a := eC (.int 2)) rfl (cons_ev (a := eC (.int 2)) rfl (cons_ev (a := eC (.int 1)) rfl (nil_ev _ _))))))) (by simp))) t1 p)
  obtain ⟨ds, ah2, e2, r2, a2⟩ := compGo_rel (g := tgN 5) (e := eJoin (eC (.str "")) (eFrz (fComp (iRng1M (eIx (eVar 1) (eC (.int 0)))) (tgN 6) tYesM (eIx (eC (.str ".o")) (e1 gInt (eBin gEq (eCall f__law_take (aCons (eVar 0) (aCons (eVar 2) aNil))) (eC (.int 0))))) [6]))) (δ := [some (.ptr b), some (.tup [.int w, .int h]), some (.int part), none, none, none, none]) (i := fun y : Nat => D.int (y : Nat)) (P := fun _ d => ∃ f : Nat → Bool, d = .str (rowS w f)) (R := BgR b) BgR.rf BgR.tr (l := List.range h) (ah := ah1) fun y _ ah3 hr => by
    obtain ⟨f, ah4, e, r⟩ := row_draw (δ := [some (.ptr b), some (.tup [.int w, .int h]), some (.int part), none, none, some (.int (y : Nat)), none]) (h := h) hw (hr g1.at').at' rfl rfl rfl p1 p2
    exact ⟨_, _, ah4, rfl, e, r, f, rfl⟩
  obtain ⟨f, hf⟩ := all2_fn (F := fun r : Nat → Bool => D.str (rowS w r)) a2
  rw [List.length_range] at hf
  subst hf
  have g2 := r2 g1.at'
  have s2 := asg_ev (i := 3) (frz_ev ((comp_ev (vs := [5]) (rng1 (n := h) (ix_at (i := 1) (l := [.int w, .int h]) (m := eVar 1) (δ := [some (.ptr b), some (.tup [.int w, .int h]), some (.int part), none, none, none, none]) rfl rfl rfl) (by omega)) (by simp; omega)).trans e2))
  obtain ⟨ra, ah3, t3, l3, g3⟩ := take_ev (δ := [some (.ptr b), some (.tup [.int w, .int h]), some (.int part), some (.lst (rowsD w h fun x y => f y x)), none, none, none]) (i := 0) (m := eIx (eVar 1) (eC (.int 0))) g2.at' rfl (ix_at (i := 0) rfl rfl rfl) (many := w) (by omega) (by omega)
  obtain ⟨rb, ah4, t4, l4, g4⟩ := take_ev (δ := [some (.ptr b), some (.tup [.int w, .int h]), some (.int part), some (.lst (rowsD w h fun x y => f y x)), none, none, none]) (i := 0) (m := eIx (eVar 1) (eC (.int 1))) g3.at' rfl (ix_at (i := 1) rfl rfl rfl) (many := h) (by omega) (by omega)
  have s3 := asg_ev (i := 4) (tup_ev (cons_ev t3 (cons_ev t4 (nil_ev _ _))) (by simp))
  have g := g1.trans (g2.trans (g3.trans g4))
  -- the nine
  have s4 : ∃ c : Cell, sIf (tOf (eBin gEq (eVar 2) (eC (.int 9)))) (sAsg (tgN 3) (eFrz (fComp (iRng1M (eIx (eVar 1) (eC (.int 1)))) (tgN 5) tYesM (eJoin (eC (.str "")) (eFrz (fComp (iRng1M (eIx (eVar 1) (eC (.int 0)))) (tgN 6) tYesM (eIx (eC (.str ".o")) (e1 gInt (eBin gEq (eTup (aCons (eVar 6) (aCons (eVar 5) aNil))) (eVar 4)))) [6]))) [5]))) sNil [some (.ptr b), some (.tup [.int w, .int h]), some (.int part), some (.lst (rowsD w h fun x y => f y x)), some (.tup [.int ra, .int rb]), none, none] ah4 = some (.nx [some (.ptr b), some (.tup [.int w, .int h]), some (.int part), some (.lst (rowsD w h c)), some (.tup [.int ra, .int rb]), none, none], ah4) := by
    have t : tOf (eBin gEq (eVar 2) (eC (.int 9))) [some (.ptr b), some (.tup [.int w, .int h]), some (.int part), some (.lst (rowsD w h fun x y => f y x)), some (.tup [.int ra, .int rb]), none, none] ah4 = some (decide (part = 9), ah4) := rfl
    by_cases hp : part = 9
    · rw [decide_eq_true hp] at t
      have e : compGo (tgN 5) tYesM (eJoin (eC (.str "")) (eFrz (fComp (iRng1M (eIx (eVar 1) (eC (.int 0)))) (tgN 6) tYesM (eIx (eC (.str ".o")) (e1 gInt (eBin gEq (eTup (aCons (eVar 6) (aCons (eVar 5) aNil))) (eVar 4)))) [6]))) [some (.ptr b), some (.tup [.int w, .int h]), some (.int part), some (.lst (rowsD w h fun x y => f y x)), some (.tup [.int ra, .int rb]), none, none] ((List.range h).map fun i => .int (i : Nat)) ah4 = some ((List.range h).map (fun y => D.str (rowS w fun x => decide (x = ra) && decide (y = rb))), ah4) :=
        compGo_map (i := fun y : Nat => D.int (y : Nat)) fun y hy => ⟨[some (.ptr b), some (.tup [.int w, .int h]), some (.int part), some (.lst (rowsD w h fun x y => f y x)), some (.tup [.int ra, .int rb]), some (.int (y : Nat)), none], rfl, rfl, row_at (h := h) hw rfl rfl rfl (by simp)⟩
      exact ⟨fun x y => decide (x = ra) && decide (y = rb), (if_t t).trans (asg_ev (frz_ev ((comp_ev (vs := [5]) (rng1 (n := h) (ix_at (i := 1) (l := [.int w, .int h]) (m := eVar 1) rfl rfl rfl) (by omega)) (by simp; omega)).trans e)))⟩
    · rw [decide_eq_false hp] at t
      exact ⟨fun x y => f y x, nil_t t⟩
  obtain ⟨c, s4⟩ := s4
  have s5 : ∃ c' : Cell, sIf (tAndM (tOf (eBin gEq (eVar 2) (eC (.int 5)))) (tOf (eBin gEq (eIx (eVar 4) (eC (.int 0))) (eC (.int 0))))) (sAsg (tgN 3) (eBin gMul (eFrz (fLst (aCons (eBin gMul (eC (.str ".")) (eIx (eVar 1) (eC (.int 0)))) aNil))) (eIx (eVar 1) (eC (.int 1))))) sNil [some (.ptr b), some (.tup [.int w, .int h]), some (.int part), some (.lst (rowsD w h c)), some (.tup [.int ra, .int rb]), none, none] ah4 = some (.nx [some (.ptr b), some (.tup [.int w, .int h]), some (.int part), some (.lst (rowsD w h c')), some (.tup [.int ra, .int rb]), none, none], ah4) := by
    have t : tOf (eBin gEq (eVar 2) (eC (.int 5))) [some (.ptr b), some (.tup [.int w, .int h]), some (.int part), some (.lst (rowsD w h c)), some (.tup [.int ra, .int rb]), none, none] ah4 = some (decide (part = 5), ah4) := rfl
    have t' : tOf (eBin gEq (eIx (eVar 4) (eC (.int 0))) (eC (.int 0))) [some (.ptr b), some (.tup [.int w, .int h]), some (.int part), some (.lst (rowsD w h c)), some (.tup [.int ra, .int rb]), none, none] ah4 = some (decide ((ra : Int) = 0), ah4) := rfl
    by_cases hp : part = 5
    · rw [decide_eq_true hp] at t
      by_cases h0 : (ra : Int) = 0
      · rw [decide_eq_true h0] at t'
        exact ⟨fun _ _ => false, (if_t ((tand_t t).trans t')).trans (asg_ev (flat_ev hw hh rfl))⟩
      · rw [decide_eq_false h0] at t'
        exact ⟨c, nil_t ((tand_t t).trans t')⟩
    · rw [decide_eq_false hp] at t
      exact ⟨c, nil_t (tand_f t)⟩
  obtain ⟨c', s5⟩ := s5
  have hs : s__law_face [some (.ptr b), some (.tup [.int w, .int h]), none, none, none, none, none] ah = some (.rt (fD w h (nrm w h c')), ah4) := by
    unfold s__law_face
    refine (seq_nx s1).trans ((seq_nx s2).trans ((seq_nx s3).trans ((seq_nx s4).trans ((seq_nx s5).trans ?_))))
    rw [← fD_nrm]
    exact ret_ev (e1_ev (var_ev rfl) rfl)
  exact ⟨nrm w h c', ah4, (fn_rt rfl hs).trans (congrArg some (trim_len0 g.len)), fun x y => nrm_out, g⟩
end
end K88

set_option linter.all false
set_option maxRecDepth 100000
namespace K88
open PySem L2 MM
/-! ### the names the law draws -/
def tx (l : List Nat) : Str := ⟨l.toArray⟩
theorem tx_len (l : List Nat) : (tx l).length = l.length := by simp [tx, Str.length]
theorem tx_add {a b : ME} {δ : DL} {ah ah1 ah2 : AH} {l m : List Nat} (h1 : a δ ah = some (.str (tx l), ah1)) (h2 : b δ ah1 = some (.str (tx m), ah2)) (hl : l.length + m.length ≤ 1000) : eBin gAdd a b δ ah = some (.str (tx (l ++ m)), ah2) := by
  refine bin_ev h1 h2 ?_
  show (if (tx l).length + (tx m).length ≤ 100000 then some (D.str (tx l ++ tx m)) else none) = _
  rw [if_pos (by rw [tx_len, tx_len]; omega)]
  refine congrArg (fun s => some (D.str s)) ?_
  show (⟨l.toArray ++ m.toArray⟩ : Str) = _
  rw [List.append_toArray]
  rfl
theorem cut_tx (l : List Nat) (lo hi : Option Int) : cutS (tx l) lo hi = tx (cutL l lo hi) := by
  unfold cutS cutL tx
  simp [Str.length]
theorem tx_take {m a : ME} {δ : DL} {ah ah1 ah2 : AH} {l : List Nat} {i : Nat} (h : m δ ah = some (.str (tx l), ah1)) (ha : a δ ah1 = some (.int (i : Nat), ah2)) (hl : l.length ≤ 1000) : eSl m oNone (oSome a) δ ah = some (.str (tx (l.take i)), ah2) := by
  have e1 : eSlice m oNone (oSome a) δ ah = some (.str (tx (l.take i)), ah2) := by
    simp only [eSlice, oNone, oSome, h, ha, Option.bind_some]
    rw [if_pos (by rw [tx_len]; omega), cut_tx]
    unfold cutL
    rw [HT.sIx_none, HT.sIx_nat, List.drop_zero, Nat.sub_zero, ← List.take_take, List.take_length]
  unfold eSl orE
  rw [e1]
theorem tx_drop {m a : ME} {δ : DL} {ah ah1 ah2 : AH} {l : List Nat} {i : Nat} (h : m δ ah = some (.str (tx l), ah1)) (ha : a δ ah1 = some (.int (i : Nat), ah2)) (hl : l.length ≤ 1000) : eSl m (oSome a) oNone δ ah = some (.str (tx (l.drop i)), ah2) := by
  have e1 : eSlice m (oSome a) oNone δ ah = some (.str (tx (l.drop i)), ah2) := by
    simp only [eSlice, oNone, oSome, h, ha, Option.bind_some]
    rw [if_pos (by rw [tx_len]; omega), cut_tx]
    unfold cutL
    rw [HT.sIx_none, HT.sIx_nat]
    by_cases hi : i ≤ l.length
    · rw [Nat.min_eq_left hi, List.take_of_length_le (by rw [List.length_drop]; exact Nat.le_refl _)]
    · rw [Nat.min_eq_right (by omega), List.drop_length, List.drop_of_length_le (by omega), List.take_nil]
  unfold eSl orE
  rw [e1]
theorem tx_mul {m a : ME} {δ : DL} {ah ah1 ah2 : AH} {c n : Nat} (h : m δ ah = some (.str (tx [c]), ah1)) (ha : a δ ah1 = some (.int (n : Nat), ah2)) (hn : n ≤ 1000) : eBin gMul m a δ ah = some (.str (tx (List.replicate n c)), ah2) := by
  refine bin_ev h ha ?_
  show (if (0 : Int) ≤ (n : Nat) ∧ ((n : Nat) : Int) ≤ 1000 ∧ (tx [c]).length ≤ 1000 then some (D.str (repS (tx [c]) (n : Nat))) else none) = _
  rw [if_pos ⟨by omega, by omega, by rw [tx_len]; simp⟩]
  refine congrArg (fun s => some (D.str s)) ?_
  show (⟨((List.replicate ((n : Nat) : Int).toNat [c]).flatten).toArray⟩ : Str) = _
  rw [Int.toNat_natCast, many1, List.map_const', List.length_range]
  rfl
def abc : List Nat := (List.range 26).map fun i => 97 + i
theorem abc_at {i : Nat} (h : i < 26) : ("abcdefghijklmnopqrstuvwxyz" : Str).cps.toList[i]? = some (97 + i) := by
  have : ("abcdefghijklmnopqrstuvwxyz" : Str).cps.toList = (List.range 26).map fun i => 97 + i := by decide +kernel
  rw [this]
  simp [h]
theorem abc_in {i : Nat} (h : i < 26) : 97 + i ∈ ("abcdefghijklmnopqrstuvwxyz" : Str).cps.toList := List.mem_of_getElem? (abc_at h)
theorem letter {m : ME} {k : Nat} {δ : DL} {ah ah1 : AH} {i : Nat} (v : δ[k]? = some (some (.str "abcdefghijklmnopqrstuvwxyz"))) (hm : m δ ah = some (.int (i : Nat), ah1)) (hi : i < 26) : eIx (eVar k) m δ ah = some (.str (tx [97 + i]), ah1) :=
  ix_str (var_ev v) hm (by decide) (abc_at hi)
/-- the kth name: n signs L, another at `at` -/
def nmL (n L a s k : Nat) : List Nat := ((List.replicate n L).take a ++ [97 + (s + 7 * k) % 26]) ++ (List.replicate n L).drop (a + 1)
def nmW (n L a s k : Nat) : List Nat := nmL n L a s k ++ List.replicate (if n < 8 then k % 2 else 0) L
theorem nmL_len {n L a s k : Nat} (ha : a < n) : (nmL n L a s k).length = n := by
  simp [nmL]
  omega
theorem nm_ok {n l a s k : Nat} (ha : a < n) (hn : n ≤ 8) (hl : l < 26) : nameB (tx (nmW n (97 + l) a s k)) = true := by
  unfold nameB
  rw [tx_len]
  have e : (nmW n (97 + l) a s k).length = n + if n < 8 then k % 2 else 0 := by rw [nmW, List.length_append, nmL_len ha, List.length_replicate]
  have c : 1 ≤ (nmW n (97 + l) a s k).length ∧ (nmW n (97 + l) a s k).length ≤ 8 := by
    rw [e]
    split <;> omega
  rw [decide_eq_true c, Bool.true_and, List.all_eq_true]
  intro x hx
  refine decide_eq_true ?_
  have hx : x ∈ nmW n (97 + l) a s k := by simpa [tx] using hx
  have r : ∀ {m y}, y ∈ List.replicate m (97 + l) → y ∈ ("abcdefghijklmnopqrstuvwxyz" : Str).cps.toList := fun hy => by
    rw [(List.mem_replicate.mp hy).2]
    exact abc_in hl
  rcases List.mem_append.mp hx with h1 | h1
  · rcases List.mem_append.mp h1 with h2 | h2
    · rcases List.mem_append.mp h2 with h3 | h3
      · exact r (List.mem_of_mem_take h3)
      · rw [List.mem_singleton.mp h3]
        exact abc_in (Nat.mod_lt _ (by decide))
    · exact r (List.mem_of_mem_drop h2)
  · exact r h1
theorem nm_at {n L a s k : Nat} (ha : a < n) : (nmW n L a s k)[a]? = some (97 + (s + 7 * k) % 26) := by
  have h1 : ((List.replicate n L).take a).length = a := by simp; omega
  unfold nmW nmL
  rw [List.append_assoc, List.append_assoc, List.getElem?_append_right (by rw [h1]; exact Nat.le_refl _), h1, Nat.sub_self]
  rfl
theorem nm_ne {n L a s i j : Nat} (ha : a < n) (hi : i < j) (hj : j < 4) : tx (nmW n L a s i) ≠ tx (nmW n L a s j) := fun e => by
  have e2 : nmW n L a s i = nmW n L a s j := by
    have := congrArg (fun z : Str => z.cps.toList) e
    simpa [tx] using this
  have := nm_at (L := L) (s := s) (k := i) ha
  rw [e2, nm_at ha] at this
  have := Option.some.inj this
  omega
theorem nms_of {n l a s many : Nat} (ha : a < n) (hn : n ≤ 8) (hl : l < 26) (m1 : 1 ≤ many) (m2 : many ≤ 4) : Nms ((List.range many).map fun k => tx (nmW n (97 + l) a s k)) where
  ok x hx := by
    obtain ⟨k, -, rfl⟩ := List.mem_map.mp hx
    exact nm_ok ha hn hl
  nd := by
    refine List.pairwise_map.mpr (List.Pairwise.imp_of_mem (fun {i j} hi hj lt => nm_ne ha lt ?_) List.pairwise_lt_range)
    have := List.mem_range.mp hj
    omega
  lo := by simp [m1]
  hi := by simp; omega
def words : List Str := ["cut", "press", "print", "turn", "cuts", "o"]
def wordsAt (r many : Nat) : List Str := (words.drop r ++ words.take r).take many
theorem words_ok : ∀ r : Fin 6, ∀ many : Fin 4, ((wordsAt r.1 (many.1 + 1)).all nameB && decide (wordsAt r.1 (many.1 + 1)).Nodup && decide ((wordsAt r.1 (many.1 + 1)).length = many.1 + 1)) = true := by decide +kernel
theorem words_nms {r many : Nat} (hr : r < 6) (m1 : 1 ≤ many) (m2 : many ≤ 4) : Nms (wordsAt r many) ∧ (wordsAt r many).length = many := by
  have := words_ok ⟨r, hr⟩ ⟨many - 1, by omega⟩
  simp only [Nat.sub_add_cancel m1, Bool.and_eq_true, decide_eq_true_eq, List.all_eq_true] at this
  obtain ⟨⟨h1, h2⟩, h3⟩ := this
  exact ⟨⟨h1, h2, by omega, by omega⟩, h3⟩
end K88

set_option linter.all false
set_option maxRecDepth 100000
namespace K88
open PySem L2 MM
theorem mulI {a b : ME} {δ : DL} {ah ah1 ah2 : AH} {i j : Nat} (h1 : a δ ah = some (.int (i : Nat), ah1)) (h2 : b δ ah1 = some (.int (j : Nat), ah2)) (hi : i < 1000) : eBin gMul a b δ ah = some (.int ((i * j : Nat) : Int), ah2) := (mul_ev h1 h2 (.inl ⟨by omega, by omega⟩)).trans (by rw [Int.natCast_mul])
theorem addI {a b : ME} {δ : DL} {ah ah1 ah2 : AH} {i j : Nat} (h1 : a δ ah = some (.int (i : Nat), ah1)) (h2 : b δ ah1 = some (.int (j : Nat), ah2)) : eBin gAdd a b δ ah = some (.int ((i + j : Nat) : Int), ah2) := (add_int h1 h2).trans (by rw [Int.natCast_add])
theorem modI {a b : ME} {δ : DL} {ah ah1 ah2 : AH} {i j : Nat} (h1 : a δ ah = some (.int (i : Nat), ah1)) (h2 : b δ ah1 = some (.int (j : Nat), ah2)) (hj : 0 < j) : eBin gMod a b δ ah = some (.int ((i % j : Nat) : Int), ah2) := (mod_ev h1 h2 (by omega)).trans (by rw [Int.natCast_emod])
theorem ev_lnames {ah : AH} {b many : Nat} (hb : BagAt ah b) (m1 : 1 ≤ many) (m2 : many ≤ 4) : ∃ (M : List Str) (ah' : AH), f__law_names [.ptr b, .int many] ah = some (.lst (M.map .str), ah') ∧ Nms M ∧ M.length = many ∧ Bg b ah ah' := by
  obtain ⟨l, ah1, t1, l1, g1⟩ := take_ev (δ := [some (.ptr b), some (.int many), some (.str "abcdefghijklmnopqrstuvwxyz"), none, none, none, none, none, none]) (i := 0) (m := eC (.int 26)) hb rfl rfl (many := 26) (by decide) (by decide)
  obtain ⟨n, ah2, t2, l2, g2⟩ := take_ev (δ := [some (.ptr b), some (.int many), some (.str "abcdefghijklmnopqrstuvwxyz"), none, none, none, none, none, none]) (i := 0) (m := eC (.int 8)) g1.at' rfl rfl (many := 8) (by decide) (by decide)
  have s1 := asg_ev (i := 3) (tx_mul (letter (k := 2) (δ := [some (.ptr b), some (.int many), some (.str "abcdefghijklmnopqrstuvwxyz"), none, none, none, none, none, none]) rfl t1 (by omega)) (addI (i := 1) (a := eC (.int 1)) rfl t2) (by omega))
  generalize hN : 1 + n = N at s1
  generalize hL : List.replicate N (97 + l) = base at s1
  have hbl : base.length = N := by rw [← hL, List.length_replicate]
  have ln := len_str (m := eVar 3) (δ := [some (.ptr b), some (.int many), some (.str "abcdefghijklmnopqrstuvwxyz"), some (.str (tx base)), none, none, none, none, none]) (ah := ah2) (z := tx base) rfl (by rw [tx_len]; omega)
  rw [tx_len, hbl] at ln
  obtain ⟨a, ah3, t3, l3, g3⟩ := take_ev (δ := [some (.ptr b), some (.int many), some (.str "abcdefghijklmnopqrstuvwxyz"), some (.str (tx base)), none, none, none, none, none]) (i := 0) (m := e1 gLen (eVar 3)) g2.at' rfl ln (many := N) (by omega) (by omega)
  have s2 := asg_ev (i := 4) t3
  obtain ⟨sp, ah4, t4, l4, g4⟩ := take_ev (δ := [some (.ptr b), some (.int many), some (.str "abcdefghijklmnopqrstuvwxyz"), some (.str (tx base)), some (.int (a : Nat)), none, none, none, none]) (i := 0) (m := eC (.int 26)) g3.at' rfl rfl (many := 26) (by decide) (by decide)
  have s3 := asg_ev (i := 5) t4
  have g := g1.trans (g2.trans (g3.trans g4))
  have t : tOf (eBin gEq (eVar 5) (eC (.int 25))) [some (.ptr b), some (.int many), some (.str "abcdefghijklmnopqrstuvwxyz"), some (.str (tx base)), some (.int (a : Nat)), some (.int (sp : Nat)), none, none, none] ah4 = some (decide ((sp : Int) = 25), ah4) := rfl
  by_cases h25 : (sp : Int) = 25
  · rw [decide_eq_true h25] at t
    have wn := words_nms (r := a % 6) (Nat.mod_lt _ (by decide)) m1 m2
    refine ⟨wordsAt (a % 6) many, ah4, ?_, wn.1, wn.2, g⟩
    have at6 : ∀ δ : DL, δ[4]? = some (some (.int (a : Nat))) → eBin gMod (eVar 4) (eC (.int 6)) δ ah4 = some (.int ((a % 6 : Nat) : Int), ah4) := fun δ v => modI (j := 6) (var_ev v) rfl (by decide)
    have w1 := add_lst (sl_drop (m := eVar 7) (δ := [some (.ptr b), some (.int many), some (.str "abcdefghijklmnopqrstuvwxyz"), some (.str (tx base)), some (.int (a : Nat)), some (.int (sp : Nat)), none, some (.lst (words.map .str)), none]) (l := words.map .str) rfl (at6 _ rfl)) (sl_take (m := eVar 7) (l := words.map .str) rfl (at6 _ rfl)) (by simp [words]; omega)
    have w2 := sl_take w1 (a := eVar 1) (i := many) rfl
    rw [← List.map_drop, ← List.map_take, ← List.map_append, ← List.map_take] at w2
    have hs : s__law_names [some (.ptr b), some (.int many), none, none, none, none, none, none, none] ah = some (.rt (.lst ((wordsAt (a % 6) many).map .str)), ah4) := by
      unfold s__law_names
      refine (seq_nx (asg_ev rfl)).trans ((seq_nx s1).trans ((seq_nx s2).trans ((seq_nx s3).trans (seq_take t ((seq_nx (asg_ev (d := .lst (words.map .str)) (frz_ev ((lst_ev (cons_ev rfl (cons_ev rfl (cons_ev rfl (cons_ev rfl (cons_ev rfl (cons_ev rfl (nil_ev _ _))))))) (by simp)).trans ?_)))).trans (ret_ev w2))))))
      rfl
    exact (fn_rt rfl hs).trans (congrArg some (trim_len0 g.len))
  · rw [decide_eq_false h25] at t
    refine ⟨(List.range many).map fun k => tx (nmW N (97 + l) a sp k), ah4, ?_, nms_of (by omega) (by omega) (by omega) m1 m2, by simp, g⟩
    have ee1 : compGo (tgN 8) tYesM (eBin gAdd (eBin gAdd (eSl (eVar 3) oNone (oSome (eVar 4))) (eIx (eVar 2) (eBin gMod (eBin gAdd (eVar 5) (eBin gMul (eC (.int 7)) (eVar 8))) (eC (.int 26))))) (eSl (eVar 3) (oSome (eBin gAdd (eVar 4) (eC (.int 1)))) oNone)) [some (.ptr b), some (.int many), some (.str "abcdefghijklmnopqrstuvwxyz"), some (.str (tx base)), some (.int (a : Nat)), some (.int (sp : Nat)), none, none, none] ((List.range many).map fun i => .int (i : Nat)) ah4 = some ((List.range many).map (fun k => D.str (tx (nmL N (97 + l) a sp k))), ah4) :=
      compGo_map (i := fun k : Nat => D.int (k : Nat)) fun k hk => ⟨[some (.ptr b), some (.int many), some (.str "abcdefghijklmnopqrstuvwxyz"), some (.str (tx base)), some (.int (a : Nat)), some (.int (sp : Nat)), none, none, some (.int (k : Nat))], rfl, rfl, by
        rw [nmL, hL]
        exact tx_add (tx_add (tx_take (i := a) (a := eVar 4) (var_ev rfl) rfl (by omega)) (letter rfl (modI (j := 26) (addI (i := sp) (a := eVar 5) rfl (mulI (i := 7) (j := k) (a := eC (.int 7)) (b := eVar 8) rfl rfl (by decide))) rfl (by decide)) (Nat.mod_lt _ (by decide))) (by rw [List.length_take]; simp; omega)) (tx_drop (i := a + 1) (var_ev rfl) (addI (i := a) (j := 1) (a := eVar 4) rfl rfl) (by omega)) (by simp; omega)⟩
    have ee2 : compGo (tgN 8) tYesM (eBin gAdd (eIx (eVar 6) (eVar 8)) (eBin gMul (eSl (eVar 3) oNone (oSome (eC (.int 1)))) (eBin gMul (eBin gMod (eVar 8) (eC (.int 2))) (e1 gInt (eBin gLt (e1 gLen (eVar 3)) (eC (.int 8))))))) [some (.ptr b), some (.int many), some (.str "abcdefghijklmnopqrstuvwxyz"), some (.str (tx base)), some (.int (a : Nat)), some (.int (sp : Nat)), some (.lst ((List.range many).map (fun k => D.str (tx (nmL N (97 + l) a sp k))))), none, none] ((List.range many).map fun i => .int (i : Nat)) ah4 = some ((List.range many).map (fun k => D.str (tx (nmW N (97 + l) a sp k))), ah4) :=
      compGo_map (i := fun k : Nat => D.int (k : Nat)) fun k hk => ⟨[some (.ptr b), some (.int many), some (.str "abcdefghijklmnopqrstuvwxyz"), some (.str (tx base)), some (.int (a : Nat)), some (.int (sp : Nat)), some (.lst ((List.range many).map (fun k => D.str (tx (nmL N (97 + l) a sp k))))), none, some (.int (k : Nat))], rfl, rfl, by
        have hk := List.mem_range.mp hk
        have ln := len_str (m := eVar 3) (δ := [some (.ptr b), some (.int many), some (.str "abcdefghijklmnopqrstuvwxyz"), some (.str (tx base)), some (.int (a : Nat)), some (.int (sp : Nat)), some (.lst ((List.range many).map (fun k => D.str (tx (nmL N (97 + l) a sp k))))), none, some (.int (k : Nat))]) (ah := ah4) (z := tx base) rfl (by rw [tx_len]; omega)
        rw [tx_len, hbl] at ln
        have lt : MM.e1 gInt (eBin gLt (e1 gLen (eVar 3)) (eC (.int 8))) [some (.ptr b), some (.int many), some (.str "abcdefghijklmnopqrstuvwxyz"), some (.str (tx base)), some (.int (a : Nat)), some (.int (sp : Nat)), some (.lst ((List.range many).map (fun k => D.str (tx (nmL N (97 + l) a sp k))))), none, some (.int (k : Nat))] ah4 = some (.int ((if N < 8 then 1 else 0 : Nat) : Int), ah4) := by
          refine e1_ev (x := .bl (decide (N < 8))) (bin_ev ln rfl ?_) ?_
          · show some (D.bl (decide ((N : Int) < 8))) = _
            refine congrArg (fun b => some (D.bl b)) (decide_eq_decide.mpr (by omega))
          · by_cases h : N < 8 <;> simp [gInt, h]
        have one : base.take 1 = [97 + l] := by
          rw [← hL, List.take_replicate, Nat.min_eq_left (by omega)]
          rfl
        have x1 := tx_take (m := eVar 3) (i := 1) (a := eC (.int 1)) (l := base) (δ := [some (.ptr b), some (.int many), some (.str "abcdefghijklmnopqrstuvwxyz"), some (.str (tx base)), some (.int (a : Nat)), some (.int (sp : Nat)), some (.lst ((List.range many).map (fun k => D.str (tx (nmL N (97 + l) a sp k))))), none, some (.int (k : Nat))]) (ah := ah4) rfl rfl (by omega)
        rw [one] at x1
        have x2 := tx_mul x1 (mulI (modI (i := k) (j := 2) (a := eVar 8) (b := eC (.int 2)) rfl rfl (by decide)) lt (by omega)) (by split <;> omega)
        have x3 := tx_add (idx3 (d := .str (tx (nmL N (97 + l) a sp k))) (m := eVar 6) (a := eVar 8) (i := k) (l := (List.range many).map (fun k => D.str (tx (nmL N (97 + l) a sp k)))) rfl rfl (by simp [hk])) x2 (by rw [nmL_len (by omega), List.length_replicate]; split <;> omega)
        have hr : (k % 2 * if N < 8 then 1 else 0) = if N < 8 then k % 2 else 0 := by split <;> omega
        rw [hr] at x3
        exact x3⟩
    have hs : s__law_names [some (.ptr b), some (.int many), none, none, none, none, none, none, none] ah = some (.rt (.lst (((List.range many).map fun k => tx (nmW N (97 + l) a sp k)).map .str)), ah4) := by
      unfold s__law_names
      refine (seq_nx (asg_ev rfl)).trans ((seq_nx s1).trans ((seq_nx s2).trans ((seq_nx s3).trans ((seq_skip t).trans ((seq_nx (asg_ev (frz_ev ((comp_ev (vs := [8]) (rng1 (n := many) (m := eVar 1) rfl (by omega)) (by simp; omega)).trans ee1)))).trans ?_)))))
      rw [List.map_map]
      exact ret_ev (frz_ev ((comp_ev (vs := [8]) (rng1 (n := many) (m := eVar 1) rfl (by omega)) (by simp; omega)).trans ee2))
    exact (fn_rt rfl hs).trans (congrArg some (trim_len0 g.len))
end K88

set_option linter.all false
set_option maxRecDepth 100000
namespace K88
open PySem L2 MM
/-! ### the law's faces -/
theorem BagAt.app {A G : AH} {b : Nat} (h : BagAt A b) : BagAt (A ++ G) b := by
  obtain ⟨v0, v1, v2, cs, e, ok⟩ := id h
  exact ⟨v0, v1, v2, cs, by rw [List.getElem?_append_left h.lt]; exact e, ok⟩
theorem Bg.app {A G H : AH} {b : Nat} (hb : BagAt A b) (h : Bg b (A ++ G) H) : ∃ A', H = A' ++ G ∧ Bg b A A' := by
  obtain ⟨-, rfl | ⟨v0, v1, v2, cs, ok, rfl⟩⟩ := h
  · exact ⟨A, rfl, Bg.refl hb⟩
  · exact ⟨_, List.set_append_left _ _ hb.lt, hb, .inr ⟨v0, v1, v2, cs, ok, rfl⟩⟩
theorem take_app {δ : DL} {A G : AH} {b i : Nat} {m : ME} {many : Int} (hb : BagAt A b) (v : δ[i]? = some (some (.ptr b))) (hm : m δ (A ++ G) = some (.int many, A ++ G)) (h0 : 1 ≤ many) (h1 : many ≤ 1000) : ∃ (r : Nat) (A' : AH), eCall f__law_take (aCons (eVar i) (aCons m aNil)) δ (A ++ G) = some (.int (r : Nat), A' ++ G) ∧ (r : Int) < many ∧ Bg b A A' := by
  obtain ⟨r, H, e, l, g⟩ := take_ev hb.app v hm h0 h1
  obtain ⟨A', rfl, g'⟩ := g.app hb
  exact ⟨r, A', e, l, g'⟩
theorem two0 {A : AH} {x y : AO} {L : Nat} (e : A.length = L) : (A ++ [x, y])[L]? = some x := by subst e; simp
theorem two1 {A : AH} {x y : AO} {L : Nat} (e : A.length = L) : (A ++ [x, y])[L + 1]? = some y := by subst e; simp
theorem twoS0 {A : AH} {x y z : AO} {L : Nat} (e : A.length = L) : (A ++ [x, y]).set L z = A ++ [z, y] := by subst e; simp
theorem twoS1 {A : AH} {x y z : AO} {L : Nat} (e : A.length = L) : (A ++ [x, y]).set (L + 1) z = A ++ [x, z] := by subst e; simp
theorem put_ev {k n : Nat} {mi mv : ME} {δ : DL} {H0 H : AH} {l : List (Key × D)} {a : Str} {v : D} (vk : δ[k]? = some (some (.ptr n))) (hv : mv δ H0 = some (v, H)) (hi : mi δ H = some (.str a, H)) (hd : H[n]? = some (.dic l)) (hl : l.length < 100000) : sSubD (eVar k) mi mv δ H0 = some (.nx δ, H.set n (.dic (putD l (.inr a) v))) := by
  have da : dicAt H n = some l := by simp [dicAt, hd]
  have hk' : keyOf (.str a) = some (.inr a) := rfl
  unfold sSubD
  rw [hv, Option.bind_some, var_ev vk, Option.bind_some, hi, Option.bind_some]
  simp only [hk', Option.bind_some, da, hl, if_true]
theorem ix_dicp {m b : ME} {δ : DL} {ah ah1 ah2 : AH} {n : Nat} {M : List Str} {F : Str → D} {a : Str} (h : m δ ah = some (.ptr n, ah1)) (hd : ah2[n]? = some (.dic (kvs M F))) (hb : b δ ah1 = some (.str a, ah2)) (ha : a ∈ M) : eIx m b δ ah = some (F a, ah2) := by
  refine bin_ev h hb ?_
  have e : asK ah2 (.ptr n) = some (kvs M F) := by simp [asK, hd]
  have k : keyOf (.str a) = some (.inr a) := rfl
  simp only [gIx, e, k, Option.bind_some, dLook_kvs ha]
theorem ix_lstp {m b : ME} {δ : DL} {ah ah1 ah2 : AH} {n i : Nat} {l : List D} {d : D} (h : m δ ah = some (.ptr n, ah1)) (hd : ah2[n]? = some (.lst l)) (hb : b δ ah1 = some (.int (i : Nat), ah2)) (e : l[i]? = some d) : eIx m b δ ah = some (d, ah2) := by
  refine bin_ev h hb ?_
  have hK : asK ah2 (.ptr n) = none := by simp [asK, hd]
  have hL : asL ah2 (.ptr n) = some l := by simp [asL, hd]
  have hi := (List.getElem?_eq_some_iff.mp e).1
  unfold gIx
  rw [hK]
  show (asL ah2 (.ptr n)).bind (fun l => atI l (i : Nat)) = _
  rw [hL, Option.bind_some, atI, ixN, if_pos (by omega), if_pos (by omega), Option.bind_some, Int.toNat_natCast, e]
theorem len_lstp {m : ME} {δ : DL} {ah ah1 : AH} {n : Nat} {l : List D} (h : m δ ah = some (.ptr n, ah1)) (hd : ah1[n]? = some (.lst l)) : e1 gLen m δ ah = some (.int l.length, ah1) := e1_ev h (by simp [gLen, asL, asK, hd])
theorem bds_map {α : Type} {n : Nat} {f : α → D} (hf : ∀ x, D.bd n (f x) = true) : ∀ l : List α, D.bds n (l.map f) = true
  | [] => rfl
  | x :: r => by rw [List.map_cons, D.bds, hf, bds_map hf r]; rfl
section
variable {b w h : Nat}
theorem two_bd {A : AH} {M : List Str} {st : Str → Cell} {cs : List Cell} (hA : Bd A) : Bd (A ++ [.dic (kvs M fun n => fD w h (st n)), .lst (cs.map (fD w h))]) := by
  have := (hA.push (o := .dic (kvs M fun n => fD w h (st n))) (kvs_bd M)).push (o := .lst (cs.map (fD w h))) (bds_map (fun c => fD_bd _ w h c) cs)
  rwa [List.append_assoc] at this
theorem spin_ok {w h : Nat} {t : Bool × Nat} (ht : t ∈ allT (decide (w = h))) (c : Cell) : t.2 ≤ 3 ∧ ∃ c', fB (turnB t.1 t.2 (w, h, c)) = fD w h c' := by
  by_cases e : w = h
  · subst e
    simp only [allT, decide_true, if_true, List.mem_cons, List.not_mem_nil, or_false] at ht
    rcases ht with rfl | rfl | rfl | rfl | rfl | rfl | rfl | rfl <;> exact ⟨by decide, _, rfl⟩
  · simp only [allT, decide_eq_false e, Bool.false_eq_true, if_false, List.mem_cons, List.not_mem_nil, or_false] at ht
    rcases ht with rfl | rfl | rfl | rfl <;> exact ⟨by decide, _, rfl⟩
theorem allT_len (s : Bool) : 1 ≤ (allT s).length ∧ (allT s).length ≤ 8 := by cases s <;> decide
def fcD (b w h : Nat) (M : List Str) (L : Nat) (o5 o6 o7 o8 : Option D) : DL := [some (.ptr b), some (.tup [.int w, .int h]), some (.lst (M.map .str)), some (.ptr L), some (.ptr (L + 1)), o5, o6, o7, o8]
def fcH (A : AH) (w h : Nat) (M : List Str) (st : Str → Cell) (cs : List Cell) : AH := A ++ [.dic (kvs M fun n => fD w h (st n)), .lst (cs.map (fD w h))]
/-- found[name] = a face, of a new name -/
theorem put_new {A : AH} {L : Nat} {M N : List Str} {st : Str → Cell} {cs : List Cell} {a : Str} {c : Cell} {mv : ME} {H0 : AH} {o6 o7 o8 : Option D} (hA : A.length = L) (hl : N.length ≤ 6) (ha : a ∉ N) (hv : mv (fcD b w h M L (some (.str a)) o6 o7 o8) H0 = some (fD w h c, fcH A w h N st cs)) :
    sSubD (eVar 3) (eVar 5) mv (fcD b w h M L (some (.str a)) o6 o7 o8) H0 = some (.nx (fcD b w h M L (some (.str a)) o6 o7 o8), fcH A w h (N ++ [a]) (put1 st a c) cs) := by
  refine (put_ev (k := 3) rfl hv rfl (two0 hA) (by simp only [kvs, List.length_map]; omega)).trans ?_
  unfold fcH
  rw [twoS0 hA]
  have e : kvs N (fun n => fD w h (st n)) = kvs N fun n => fD w h (put1 st a c n) := kvs_congr fun n hn => by
    have this : n ≠ a := fun e => ha (e ▸ hn)
    show fD w h (st n) = fD w h (if n = a then c else st n)
    rw [if_neg this]
  have e2 : fD w h c = (fun n => fD w h (put1 st a c n)) a := by simp [put1]
  rw [e, e2, putD_new ha]
/-- again, of a name that is there -/
theorem put_old {A : AH} {L : Nat} {M N : List Str} {st : Str → Cell} {cs : List Cell} {a : Str} {c : Cell} {mv : ME} {H0 : AH} {o6 o7 o8 : Option D} (hA : A.length = L) (hl : N.length ≤ 7) (ha : a ∈ N) (hv : mv (fcD b w h M L (some (.str a)) o6 o7 o8) H0 = some (fD w h c, fcH A w h N st cs)) :
    sSubD (eVar 3) (eVar 5) mv (fcD b w h M L (some (.str a)) o6 o7 o8) H0 = some (.nx (fcD b w h M L (some (.str a)) o6 o7 o8), fcH A w h N (put1 st a c) cs) := by
  refine (put_ev (k := 3) rfl hv rfl (two0 hA) (by simp only [kvs, List.length_map]; omega)).trans ?_
  unfold fcH
  rw [twoS0 hA, putD_kvs ha]
  have e : (kvs N fun n => if n = a then fD w h c else fD w h (st n)) = kvs N fun n => fD w h (put1 st a c n) := kvs_congr fun n hn => by
    unfold put1
    split <;> rfl
  rw [e]
end
end K88

set_option linter.all false
set_option maxRecDepth 100000
namespace K88
open PySem L2 MM
section
variable {b w h : Nat}
/-- one turn of the loop over names -/
theorem fc_turn (W : Wh w h) {A : AH} {L : Nat} {M N : List Str} {st : Str → Cell} {cs : List Cell} {a : Str} {o6 o7 o8 : Option D} (hA : A.length = L) (hBd : Bd A) (hb : BagAt A b) (hl : N.length ≤ 5) (ha : a ∉ N) (hc : cs.length = N.length + 1) {body : MS}
    (he : body = (sSeq (sAsg (tgN 6) (eCall f__law_take (aCons (eVar 0) (aCons (eC (.int 6)) aNil)))) (sSeq (sAsg (tgN 7) (eIx (eVar 4) (eCall f__law_take (aCons (eVar 0) (aCons (e1 gLen (eVar 4)) aNil))))) (sSeq (sIf (tOf (eBin gEq (eVar 6) (eC (.int 0)))) (sSubD (eVar 3) (eVar 5) (e1 gTuple (eBin gMul (eFrz (fLst (aCons (eBin gMul (eC (.str ".")) (eIx (eVar 1) (eC (.int 0)))) aNil))) (eIx (eVar 1) (eC (.int 1)))))) (sIf (tOf (eBin gLt (eVar 6) (eC (.int 3)))) (sSubD (eVar 3) (eVar 5) (eCall f__law_face (aCons (eVar 0) (aCons (eVar 1) aNil)))) (sIf (tOf (eBin gEq (eVar 6) (eC (.int 3)))) (sSubD (eVar 3) (eVar 5) (eVar 7)) (sSeq (sAsg (tgN 8) (eCall f__law_turnings (aCons (eVar 1) aNil))) (sSeq (sSubD (eVar 3) (eVar 5) (eCall f__law_spun (aCons (eVar 7) (aCons (eIx (eVar 8) (eCall f__law_take (aCons (eVar 0) (aCons (e1 gLen (eVar 8)) aNil)))) aNil)))) (sIf (tOf (eBin gEq (eVar 6) (eC (.int 5)))) (sSubD (eVar 3) (eVar 5) (eCall f__law_over (aCons (eIx (eVar 3) (eVar 5)) (aCons (eIx (eVar 4) (eCall f__law_take (aCons (eVar 0) (aCons (e1 gLen (eVar 4)) aNil)))) aNil)))) sNil)))))) (sExpr (eMut gAppend (eVar 4) (aCons (eIx (eVar 3) (eVar 5)) aNil))))))) :
    ∃ (A' : AH) (st' : Str → Cell) (c : Cell) (p6 p7 p8 : Option D), body (fcD b w h M L (some (.str a)) o6 o7 o8) (fcH A w h N st cs) = some (.nx (fcD b w h M L (some (.str a)) p6 p7 p8), fcH A' w h (N ++ [a]) st' (cs ++ [c])) ∧ Bg b A A' := by
  have w1 := W.w1
  have w6 := W.w6
  have h1 := W.h1
  have h6 := W.h6
  have lenL : ∀ {A : AH} {o6 o7 o8} (N : List Str) (st : Str → Cell), A.length = L → MM.e1 gLen (eVar 4) (fcD b w h M L (some (.str a)) o6 o7 o8) (fcH A w h N st cs) = some (.int cs.length, fcH A w h N st cs) := fun N st e => by
    have := len_lstp (m := eVar 4) (δ := fcD b w h M L (some (.str a)) ‹_› ‹_› ‹_›) rfl (two1 (x := .dic (kvs N fun n => fD w h (st n))) (y := .lst (cs.map (fD w h))) e)
    rwa [List.length_map] at this
  obtain ⟨r6, A1, t6, l6, g1⟩ := take_app (δ := fcD b w h M L (some (.str a)) o6 o7 o8) (G := [.dic (kvs N fun n => fD w h (st n)), .lst (cs.map (fD w h))]) (i := 0) (m := eC (.int 6)) hb rfl rfl (many := 6) (by decide) (by decide)
  have hA1 : A1.length = L := g1.len.trans hA
  obtain ⟨r7, A2, t7, l7, g2⟩ := take_app (δ := fcD b w h M L (some (.str a)) (some (.int (r6 : Nat))) o7 o8) (G := [.dic (kvs N fun n => fD w h (st n)), .lst (cs.map (fD w h))]) (i := 0) (m := MM.e1 gLen (eVar 4)) g1.at' rfl (lenL N st hA1) (many := cs.length) (by omega) (by omega)
  have hA2 : A2.length = L := g2.len.trans hA1
  have hr7 : r7 < cs.length := by omega
  obtain ⟨c1, hc1⟩ : ∃ c1, cs[r7]? = some c1 := ⟨cs[r7], List.getElem?_eq_getElem hr7⟩
  have s1 : sAsg (tgN 6) (eCall f__law_take (aCons (eVar 0) (aCons (eC (.int 6)) aNil))) (fcD b w h M L (some (.str a)) o6 o7 o8) (fcH A w h N st cs) = some (.nx (fcD b w h M L (some (.str a)) (some (.int (r6 : Nat))) o7 o8), fcH A1 w h N st cs) := asg_ev t6
  have s2 : sAsg (tgN 7) (eIx (eVar 4) (eCall f__law_take (aCons (eVar 0) (aCons (MM.e1 gLen (eVar 4)) aNil)))) (fcD b w h M L (some (.str a)) (some (.int (r6 : Nat))) o7 o8) (fcH A1 w h N st cs) = some (.nx (fcD b w h M L (some (.str a)) (some (.int (r6 : Nat))) (some (fD w h c1)) o8), fcH A2 w h N st cs) :=
    asg_ev (ix_lstp (m := eVar 4) (n := L + 1) rfl (two1 hA2) t7 (by rw [List.getElem?_map, hc1]; rfl))
  have hb2 := (g1.trans g2).at'
  have hBd2 := (g1.trans g2).bd hBd
  -- the branches
  have s3 : ∃ (A3 : AH) (st' : Str → Cell) (p8 : Option D), (sIf (tOf (eBin gEq (eVar 6) (eC (.int 0)))) (sSubD (eVar 3) (eVar 5) (MM.e1 gTuple (eBin gMul (eFrz (fLst (aCons (eBin gMul (eC (.str ".")) (eIx (eVar 1) (eC (.int 0)))) aNil))) (eIx (eVar 1) (eC (.int 1)))))) (sIf (tOf (eBin gLt (eVar 6) (eC (.int 3)))) (sSubD (eVar 3) (eVar 5) (eCall f__law_face (aCons (eVar 0) (aCons (eVar 1) aNil)))) (sIf (tOf (eBin gEq (eVar 6) (eC (.int 3)))) (sSubD (eVar 3) (eVar 5) (eVar 7)) (sSeq (sAsg (tgN 8) (eCall f__law_turnings (aCons (eVar 1) aNil))) (sSeq (sSubD (eVar 3) (eVar 5) (eCall f__law_spun (aCons (eVar 7) (aCons (eIx (eVar 8) (eCall f__law_take (aCons (eVar 0) (aCons (MM.e1 gLen (eVar 8)) aNil)))) aNil)))) (sIf (tOf (eBin gEq (eVar 6) (eC (.int 5)))) (sSubD (eVar 3) (eVar 5) (eCall f__law_over (aCons (eIx (eVar 3) (eVar 5)) (aCons (eIx (eVar 4) (eCall f__law_take (aCons (eVar 0) (aCons (MM.e1 gLen (eVar 4)) aNil)))) aNil)))) sNil)))))) (fcD b w h M L (some (.str a)) (some (.int (r6 : Nat))) (some (fD w h c1)) o8) (fcH A2 w h N st cs) =
      some (.nx (fcD b w h M L (some (.str a)) (some (.int (r6 : Nat))) (some (fD w h c1)) p8), fcH A3 w h (N ++ [a]) st' cs) ∧ Bg b A2 A3 := by
    have t0 : tOf (eBin gEq (eVar 6) (eC (.int 0))) (fcD b w h M L (some (.str a)) (some (.int (r6 : Nat))) (some (fD w h c1)) o8) (fcH A2 w h N st cs) = some (decide ((r6 : Int) = 0), fcH A2 w h N st cs) := rfl
    have t1 : tOf (eBin gLt (eVar 6) (eC (.int 3))) (fcD b w h M L (some (.str a)) (some (.int (r6 : Nat))) (some (fD w h c1)) o8) (fcH A2 w h N st cs) = some (decide ((r6 : Int) < 3), fcH A2 w h N st cs) := rfl
    have t2 : tOf (eBin gEq (eVar 6) (eC (.int 3))) (fcD b w h M L (some (.str a)) (some (.int (r6 : Nat))) (some (fD w h c1)) o8) (fcH A2 w h N st cs) = some (decide ((r6 : Int) = 3), fcH A2 w h N st cs) := rfl
    by_cases e0 : (r6 : Int) = 0
    · rw [decide_eq_true e0] at t0
      exact ⟨A2, _, _, (if_t t0).trans (put_new (c := fun _ _ => false) hA2 (by omega) ha (e1_ev (flat_ev w6 h6 rfl) rfl)), Bg.refl hb2⟩
    rw [decide_eq_false e0] at t0
    by_cases e1' : (r6 : Int) < 3
    · rw [decide_eq_true e1'] at t1
      obtain ⟨c, H, ef, -, gf⟩ := ev_lface (ah := fcH A2 w h N st cs) w1 w6 h1 h6 hb2.app
      obtain ⟨A3, rfl, g3⟩ := gf.app hb2
      exact ⟨A3, _, _, (if_f t0).trans ((if_t t1).trans (put_new (c := c) (g3.len.trans hA2) (by omega) ha ((call_ev (cons_ev (var_ev rfl) (cons_ev (var_ev rfl) (nil_ev _ _)))).trans ef))), g3⟩
    rw [decide_eq_false e1'] at t1
    by_cases e3 : (r6 : Int) = 3
    · rw [decide_eq_true e3] at t2
      exact ⟨A2, _, _, (if_f t0).trans ((if_f t1).trans ((if_t t2).trans (put_new (c := c1) hA2 (by omega) ha (var_ev rfl)))), Bg.refl hb2⟩
    rw [decide_eq_false e3] at t2
    have a1 : sAsg (tgN 8) (eCall f__law_turnings (aCons (eVar 1) aNil)) (fcD b w h M L (some (.str a)) (some (.int (r6 : Nat))) (some (fD w h c1)) o8) (fcH A2 w h N st cs) = some (.nx (fcD b w h M L (some (.str a)) (some (.int (r6 : Nat))) (some (fD w h c1)) (some (.lst ((allT (decide (w = h))).map fun t => .str (tz t.1 t.2))))), fcH A2 w h N st cs) :=
      asg_ev ((call_ev (cons_ev (var_ev rfl) (nil_ev _ _))).trans (ev_lturnings w h _))
    have al := allT_len (decide (w = h))
    have ln8 := len_lst (m := eVar 8) (δ := fcD b w h M L (some (.str a)) (some (.int (r6 : Nat))) (some (fD w h c1)) (some (.lst ((allT (decide (w = h))).map fun t => .str (tz t.1 t.2))))) (ah := fcH A2 w h N st cs) (l := (allT (decide (w = h))).map fun t => .str (tz t.1 t.2)) rfl
    rw [List.length_map] at ln8
    obtain ⟨r8, A3, t8, l8, g3⟩ := take_app (G := [.dic (kvs N fun n => fD w h (st n)), .lst (cs.map (fD w h))]) (i := 0) (m := MM.e1 gLen (eVar 8)) hb2 rfl ln8 (many := (allT (decide (w = h))).length) (by omega) (by omega)
    have hA3 := g3.len.trans hA2
    have hr8 : r8 < (allT (decide (w = h))).length := by omega
    obtain ⟨t, ht⟩ : ∃ t, (allT (decide (w = h)))[r8]? = some t := ⟨_, List.getElem?_eq_getElem hr8⟩
    obtain ⟨q3, c2, hc2⟩ := spin_ok (List.mem_of_getElem? ht) c1
    have sp := ev_spun (b := (w, h, c1)) ⟨w1, w6, h1, h6⟩ t.1 q3 (two_bd (w := w) (h := h) (M := N) (st := st) (cs := cs) (g3.bd hBd2))
    rw [hc2] at sp
    have a2 := put_new (b := b) (M := M) (c := c2) (cs := cs) (st := st) (o6 := some (.int (r6 : Nat))) (o7 := some (fD w h c1)) (o8 := some (.lst ((allT (decide (w = h))).map fun t => .str (tz t.1 t.2)))) (a := a) hA3 (by omega) ha ((call_ev (cons_ev (var_ev (i := 7) rfl) (cons_ev (idx3 (m := eVar 8) (var_ev rfl) t8 (by rw [List.getElem?_map, ht]; rfl)) (nil_ev _ _)))).trans sp)
    have t5 : tOf (eBin gEq (eVar 6) (eC (.int 5))) (fcD b w h M L (some (.str a)) (some (.int (r6 : Nat))) (some (fD w h c1)) (some (.lst ((allT (decide (w = h))).map fun t => .str (tz t.1 t.2))))) (fcH A3 w h (N ++ [a]) (put1 st a c2) cs) = some (decide ((r6 : Int) = 5), fcH A3 w h (N ++ [a]) (put1 st a c2) cs) := rfl
    by_cases e5 : (r6 : Int) = 5
    · rw [decide_eq_true e5] at t5
      obtain ⟨r9, A4, t9, l9, g4⟩ := take_app (δ := fcD b w h M L (some (.str a)) (some (.int (r6 : Nat))) (some (fD w h c1)) (some (.lst ((allT (decide (w = h))).map fun t => .str (tz t.1 t.2))))) (G := [.dic (kvs (N ++ [a]) fun n => fD w h (put1 st a c2 n)), .lst (cs.map (fD w h))]) (i := 0) (m := MM.e1 gLen (eVar 4)) g3.at' rfl (lenL (N ++ [a]) (put1 st a c2) hA3) (many := cs.length) (by omega) (by omega)
      have hA4 := g4.len.trans hA3
      have hr9 : r9 < cs.length := by omega
      have ov := ev_over (w := w) (h := h) (c := put1 st a c2 a) (e := cs[r9]) w6 h6 (two_bd (w := w) (h := h) (M := N ++ [a]) (st := put1 st a c2) (cs := cs) (g4.bd (g3.bd hBd2)))
      have a3 := put_old (b := b) (M := M) (o6 := some (.int (r6 : Nat))) (o7 := some (fD w h c1)) (o8 := some (.lst ((allT (decide (w = h))).map fun t => .str (tz t.1 t.2)))) hA4 (by simp; omega) (by simp) ((call_ev (cons_ev (ix_dicp (F := fun n => fD w h (put1 st a c2 n)) (m := eVar 3) (b := eVar 5) (a := a) (M := N ++ [a]) (n := L) rfl (two0 hA3) rfl (by simp)) (cons_ev (ix_lstp (m := eVar 4) (n := L + 1) rfl (two1 hA4) t9 (by rw [List.getElem?_map, List.getElem?_eq_getElem hr9]; rfl)) (nil_ev _ _)))).trans ov)
      exact ⟨A4, _, _, (if_f t0).trans ((if_f t1).trans ((if_f t2).trans ((seq_nx a1).trans ((seq_nx a2).trans ((if_t t5).trans a3))))), g3.trans g4⟩
    · rw [decide_eq_false e5] at t5
      exact ⟨A3, _, _, (if_f t0).trans ((if_f t1).trans ((if_f t2).trans ((seq_nx a1).trans ((seq_nx a2).trans (nil_t t5))))), g3⟩
  obtain ⟨A3, st', p8, s3, g3⟩ := s3
  have hA3 := g3.len.trans hA2
  subst he
  refine ⟨A3, st', st' a, some (.int (r6 : Nat)), some (fD w h c1), p8, (seq_nx s1).trans ((seq_nx s2).trans ((seq_nx s3).trans ?_)), g1.trans (g2.trans g3)⟩
  refine (exp_ev (mut_ev (mo := eVar 4) (d := .non) (n := L + 1) (l' := cs.map (fD w h) ++ [fD w h (st' a)]) rfl (two1 hA3) (cons_ev (ix_dicp (F := fun n => fD w h (st' n)) (m := eVar 3) (b := eVar 5) (a := a) (M := N ++ [a]) (n := L) rfl (two0 hA3) rfl (by simp)) (nil_ev _ _)) (two1 hA3) ?_)).trans ?_
  · simp only [gAppend, List.length_map]
    rw [if_pos (by omega)]
  · rw [twoS1 hA3]
    simp [fcH]
end
end K88

set_option linter.all false
set_option maxRecDepth 100000
namespace K88
open PySem L2 MM
theorem str_inj : ∀ {M N : List Str}, M.map D.str = N.map D.str → M = N
  | [], [], _ => rfl
  | [], _ :: _, e => by simp at e
  | _ :: _, [], e => by simp at e
  | a :: M, c :: N, e => by
    rw [List.map_cons, List.map_cons] at e
    obtain ⟨e1, e2⟩ := List.cons.inj e
    rw [D.str.inj e1, str_inj e2]
theorem map_split {M N : List Str} {d : D} {r : List D} (e : M.map D.str = N.map D.str ++ d :: r) : ∃ a R, M = N ++ a :: R ∧ d = .str a := by
  obtain ⟨l1, l2, rfl, h1, h2⟩ := List.map_eq_append_iff.mp e
  obtain ⟨a, R, rfl, rfl, -⟩ := List.map_eq_cons_iff.mp h2
  exact ⟨a, R, by rw [str_inj h1], rfl⟩
section
variable {b w h : Nat}
theorem ev_lfaces (W : Wh w h) {M : List Str} (hM : Nms M) {ah : AH} (hBd : Bd ah) (hb : BagAt ah b) : ∃ (st : Str → Cell) (ah' : AH), f__law_faces [.ptr b, .tup [.int w, .int h], .lst (M.map .str)] ah = some (lawD M w h st, ah') ∧ Bg b ah ah' := by
  obtain ⟨c0, H0, e0, -, g0⟩ := ev_lface (ah := ah ++ [.dic []]) W.w1 W.w6 W.h1 W.h6 hb.app
  obtain ⟨A0, rfl, gg⟩ := g0.app hb
  have s1 : sAsg (tgN 3) (eOwnD dNew) [some (.ptr b), some (.tup [.int w, .int h]), some (.lst (M.map .str)), none, none, none, none, none, none] ah = some (.nx [some (.ptr b), some (.tup [.int w, .int h]), some (.lst (M.map .str)), some (.ptr ah.length), none, none, none, none, none], ah ++ [.dic []]) := rfl
  have s2 : sAsg (tgN 4) (eOwn (fLst (aCons (eCall f__law_face (aCons (eVar 0) (aCons (eVar 1) aNil))) aNil))) [some (.ptr b), some (.tup [.int w, .int h]), some (.lst (M.map .str)), some (.ptr ah.length), none, none, none, none, none] (ah ++ [.dic []]) = some (.nx (fcD b w h M ah.length none none none none), fcH A0 w h [] (fun _ => c0) [c0]) := by
    refine (asg_ev (own_ev (lst_ev (cons_ev ((call_ev (cons_ev (var_ev rfl) (cons_ev (var_ev rfl) (nil_ev _ _)))).trans e0) (nil_ev _ _)) (by simp)))).trans ?_
    rw [List.length_append, gg.len, List.append_assoc]
    rfl
  obtain ⟨δ', H', e3, I3⟩ := forGo_inv (g := tgN 5) (b := (sSeq (sAsg (tgN 6) (eCall f__law_take (aCons (eVar 0) (aCons (eC (.int 6)) aNil)))) (sSeq (sAsg (tgN 7) (eIx (eVar 4) (eCall f__law_take (aCons (eVar 0) (aCons (e1 gLen (eVar 4)) aNil))))) (sSeq (sIf (tOf (eBin gEq (eVar 6) (eC (.int 0)))) (sSubD (eVar 3) (eVar 5) (e1 gTuple (eBin gMul (eFrz (fLst (aCons (eBin gMul (eC (.str ".")) (eIx (eVar 1) (eC (.int 0)))) aNil))) (eIx (eVar 1) (eC (.int 1)))))) (sIf (tOf (eBin gLt (eVar 6) (eC (.int 3)))) (sSubD (eVar 3) (eVar 5) (eCall f__law_face (aCons (eVar 0) (aCons (eVar 1) aNil)))) (sIf (tOf (eBin gEq (eVar 6) (eC (.int 3)))) (sSubD (eVar 3) (eVar 5) (eVar 7)) (sSeq (sAsg (tgN 8) (eCall f__law_turnings (aCons (eVar 1) aNil))) (sSeq (sSubD (eVar 3) (eVar 5) (eCall f__law_spun (aCons (eVar 7) (aCons (eIx (eVar 8) (eCall f__law_take (aCons (eVar 0) (aCons (e1 gLen (eVar 8)) aNil)))) aNil)))) (sIf (tOf (eBin gEq (eVar 6) (eC (.int 5)))) (sSubD (eVar 3) (eVar 5) (eCall f__law_over (aCons (eIx (eVar 3) (eVar 5)) (aCons (eIx (eVar 4) (eCall f__law_take (aCons (eVar 0) (aCons (e1 gLen (eVar 4)) aNil)))) aNil)))) sNil)))))) (sExpr (eMut gAppend (eVar 4) (aCons (eIx (eVar 3) (eVar 5)) aNil)))))))
    (I := fun dn δ H => ∃ (A : AH) (N : List Str) (st : Str → Cell) (cs : List Cell) (o5 o6 o7 o8 : Option D), dn = N.map D.str ∧ δ = fcD b w h M ah.length o5 o6 o7 o8 ∧ H = fcH A w h N st cs ∧ Bg b ah A ∧ cs.length = N.length + 1)
    (l := M.map D.str) (done := []) (δ := fcD b w h M ah.length none none none none) (ah := fcH A0 w h [] (fun _ => c0) [c0])
    ⟨A0, [], _, _, none, none, none, none, rfl, rfl, rfl, gg, rfl⟩ (by
      rintro dn d r δ H e ⟨A, N, st, cs, o5, o6, o7, o8, rfl, rfl, rfl, g, hc⟩
      obtain ⟨a, R, eM, rfl⟩ := map_split e
      have hi := hM.hi
      have nd := hM.nd
      rw [eM] at hi nd
      rw [List.length_append, List.length_cons] at hi
      have ha : a ∉ N := fun hn => (List.nodup_append.mp nd).2.2 a hn a (by simp) rfl
      obtain ⟨A', st', c, p6, p7, p8, et, g2⟩ := fc_turn (b := b) (w := w) (h := h) (M := M) (o6 := o6) (o7 := o7) (o8 := o8) W g.len (g.bd hBd) g.at' (by omega) ha hc rfl
      exact ⟨_, _, _, rfl, et, A', N ++ [a], st', cs ++ [c], some (.str a), p6, p7, p8, by simp, rfl, rfl, g.trans g2, by simp [hc]⟩)
  obtain ⟨A, N, st, cs, o5, o6, o7, o8, eN, rfl, rfl, g, hc⟩ := I3
  have eN : M = N := str_inj eN
  subst eN
  have fz : freeze (.ptr ah.length, fcH A w h M st cs) = some (lawD M w h st, A ++ [.gone, .lst (cs.map (fD w h))]) := by
    unfold freeze fcH
    simp only [two0 g.len]
    rw [twoS0 g.len]
    rfl
  have hs : s__law_faces [some (.ptr b), some (.tup [.int w, .int h]), some (.lst (M.map .str)), none, none, none, none, none, none] ah = some (.rt (lawD M w h st), A ++ [.gone, .lst (cs.map (fD w h))]) := by
    unfold s__law_faces
    refine (seq_nx s1).trans ((seq_nx s2).trans ((seq_nx ((for_ev (iAny_lst (l := M.map .str) rfl)).trans e3)).trans (ret_ev ?_)))
    unfold eFreeze
    rw [var_ev (i := 3) (d := .ptr ah.length) rfl, Option.bind_some, fz]
  exact ⟨st, A, (fn_rt rfl hs).trans (congrArg some (trim_len g.len (lawD_bd _ M w h st) (g.bd hBd))), g⟩
end
end K88

set_option linter.all false
set_option maxRecDepth 100000
namespace K88
open PySem L2 MM
section
variable {b w h : Nat}
theorem ev_ldeed (W : Wh w h) {M : List Str} (hM : Nms M) {ah : AH} (hb : BagAt ah b) : ∃ (d : Dd) (ah' : AH), f__law_deed [.ptr b, .tup [.int w, .int h], .lst (M.map .str)] ah = some (dD w h d, ah') ∧ DOk M w h d ∧ Bg b ah ah' := by
  have lo := hM.lo
  have hi := hM.hi
  have lnM : ∀ (δ : DL) (ah : AH), δ[2]? = some (some (.lst (M.map .str))) → e1 gLen (eVar 2) δ ah = some (.int M.length, ah) := fun δ ah v => by
    have := len_lst (var_ev (ah := ah) v)
    rwa [List.length_map] at this
  obtain ⟨r1, A1, t1, l1, g1⟩ := take_ev (δ := [some (.ptr b), some (.tup [.int w, .int h]), some (.lst (M.map .str)), none, none, none, none, none]) (i := 0) (m := e1 gLen (eVar 2)) hb rfl (lnM _ _ rfl) (many := M.length) (by omega) (by omega)
  have hr1 : r1 < M.length := by omega
  obtain ⟨a, ha⟩ : ∃ a, M[r1]? = some a := ⟨_, List.getElem?_eq_getElem hr1⟩
  have haM := List.mem_of_getElem? ha
  have s1 : sAsg (tgN 3) (eIx (eVar 2) (eCall f__law_take (aCons (eVar 0) (aCons (e1 gLen (eVar 2)) aNil)))) [some (.ptr b), some (.tup [.int w, .int h]), some (.lst (M.map .str)), none, none, none, none, none] ah = some (.nx [some (.ptr b), some (.tup [.int w, .int h]), some (.lst (M.map .str)), some (.str a), none, none, none, none], A1) := asg_ev (idx3 (m := eVar 2) (var_ev rfl) t1 (by rw [List.getElem?_map, ha]; rfl))
  obtain ⟨r2, A2, t2, l2, g2⟩ := take_ev (δ := [some (.ptr b), some (.tup [.int w, .int h]), some (.lst (M.map .str)), some (.str a), none, none, none, none]) (i := 0) (m := eC (.int 10)) g1.at' rfl rfl (many := 10) (by decide) (by decide)
  have s2 : sAsg (tgN 4) (eCall f__law_take (aCons (eVar 0) (aCons (eC (.int 10)) aNil))) [some (.ptr b), some (.tup [.int w, .int h]), some (.lst (M.map .str)), some (.str a), none, none, none, none] A1 = some (.nx [some (.ptr b), some (.tup [.int w, .int h]), some (.lst (M.map .str)), some (.str a), some (.int (r2 : Nat)), none, none, none], A2) := asg_ev t2
  have g := g1.trans g2
  have fin : ∀ {d : Dd} {A : AH}, s__law_deed [some (.ptr b), some (.tup [.int w, .int h]), some (.lst (M.map .str)), none, none, none, none, none] ah = some (.rt (dD w h d), A) → DOk M w h d → Bg b ah A → ∃ (d : Dd) (ah' : AH), f__law_deed [.ptr b, .tup [.int w, .int h], .lst (M.map .str)] ah = some (dD w h d, ah') ∧ DOk M w h d ∧ Bg b ah ah' := fun hs ok g => ⟨_, _, (fn_rt rfl hs).trans (congrArg some (trim_len0 g.len)), ok, g⟩
  have c1 : tOf (eBin gLt (eVar 4) (eC (.int 5))) [some (.ptr b), some (.tup [.int w, .int h]), some (.lst (M.map .str)), some (.str a), some (.int (r2 : Nat)), none, none, none] A2 = some (decide ((r2 : Int) < 5), A2) := rfl
  have c2 : tOf (eBin gGt (e1 gLen (eVar 2)) (eC (.int 1))) [some (.ptr b), some (.tup [.int w, .int h]), some (.lst (M.map .str)), some (.str a), some (.int (r2 : Nat)), none, none, none] A2 = some (decide ((1 : Int) < M.length), A2) := tof_ev (bin_ev (lnM _ _ rfl) (b := eC (.int 1)) rfl rfl)
  by_cases hp : (r2 : Int) < 5 ∧ (1 : Int) < M.length
  · rw [decide_eq_true hp.1] at c1
    rw [decide_eq_true hp.2] at c2
    -- press
    have e : compGo (tgN 7) (tOf (eBin gNe (eVar 7) (eVar 3))) (eVar 7) [some (.ptr b), some (.tup [.int w, .int h]), some (.lst (M.map .str)), some (.str a), some (.int (r2 : Nat)), none, none, none] (M.map D.str) A2 = some ((M.filter fun x => !decide (x = a)).map D.str, A2) :=
      compGo_filter (i := D.str) (f := D.str) fun x hx => ⟨[some (.ptr b), some (.tup [.int w, .int h]), some (.lst (M.map .str)), some (.str a), some (.int (r2 : Nat)), none, none, some (.str x)], rfl, rfl, fun _ => rfl⟩
    have ne : 1 ≤ (M.filter fun x => !decide (x = a)).length := by
      have nd := hM.nd
      match M, nd, hp.2 with
      | x :: y :: R, nd, _ =>
        have xy : x ≠ y := fun e => (List.nodup_cons.mp nd).1 (by simp [e])
        by_cases hx : x = a
        · have hy : y ≠ a := fun e => xy (hx.trans e.symm)
          exact List.length_pos_of_mem (a := y) (by simp [hy])
        · exact List.length_pos_of_mem (a := x) (by simp [hx])
      | [_], _, h => simp at h
      | [], _, h => simp at h
    have le := List.length_filter_le (fun x => !decide (x = a)) M
    have s3 : sAsg (tgN 5) (eFrz (fComp (iAny (eVar 2)) (tgN 7) (tOf (eBin gNe (eVar 7) (eVar 3))) (eVar 7) [7])) [some (.ptr b), some (.tup [.int w, .int h]), some (.lst (M.map .str)), some (.str a), some (.int (r2 : Nat)), none, none, none] A2 = some (.nx [some (.ptr b), some (.tup [.int w, .int h]), some (.lst (M.map .str)), some (.str a), some (.int (r2 : Nat)), some (.lst ((M.filter fun x => !decide (x = a)).map D.str)), none, none], A2) :=
      asg_ev (frz_ev ((comp_ev (vs := [7]) (iAny_lst (l := M.map .str) rfl) (by simp; omega)).trans e))
    have ln5 := len_lst (m := eVar 5) (δ := [some (.ptr b), some (.tup [.int w, .int h]), some (.lst (M.map .str)), some (.str a), some (.int (r2 : Nat)), some (.lst ((M.filter fun x => !decide (x = a)).map D.str)), none, none]) (ah := A2) (l := (M.filter fun x => !decide (x = a)).map D.str) rfl
    rw [List.length_map] at ln5
    obtain ⟨r3, A3, t3, l3, g3⟩ := take_ev (i := 0) g2.at' rfl ln5 (many := (M.filter fun x => !decide (x = a)).length) (by omega) (by omega)
    have hr3 : r3 < (M.filter fun x => !decide (x = a)).length := by omega
    obtain ⟨c, hc⟩ : ∃ c, (M.filter fun x => !decide (x = a))[r3]? = some c := ⟨_, List.getElem?_eq_getElem hr3⟩
    have hcm := List.mem_filter.mp (List.mem_of_getElem? hc)
    refine fin (d := .press a c) ?_ ⟨haM, hcm.1, fun e => by simpa [e] using hcm.2⟩ (g.trans g3)
    unfold s__law_deed
    exact (seq_nx s1).trans ((seq_nx s2).trans (seq_take ((tand_t c1).trans c2) ((seq_nx s3).trans (ret_ev (tup_ev (cons_ev (a := eC (.str "press")) rfl (cons_ev (a := eVar 3) rfl (cons_ev (idx3 (m := eVar 5) (var_ev rfl) t3 (by rw [List.getElem?_map, hc]; rfl)) (nil_ev _ _)))) (by simp))))))
  have c12 : tAndM (tOf (eBin gLt (eVar 4) (eC (.int 5)))) (tOf (eBin gGt (e1 gLen (eVar 2)) (eC (.int 1)))) [some (.ptr b), some (.tup [.int w, .int h]), some (.lst (M.map .str)), some (.str a), some (.int (r2 : Nat)), none, none, none] A2 = some (false, A2) := by
    by_cases h5 : (r2 : Int) < 5
    · rw [decide_eq_true h5] at c1
      rw [decide_eq_false fun e => hp ⟨h5, e⟩] at c2
      exact (tand_t c1).trans c2
    · rw [decide_eq_false h5] at c1
      exact tand_f c1
  have c3 : tOf (eBin gLt (eVar 4) (eC (.int 8))) [some (.ptr b), some (.tup [.int w, .int h]), some (.lst (M.map .str)), some (.str a), some (.int (r2 : Nat)), none, none, none] A2 = some (decide ((r2 : Int) < 8), A2) := rfl
  by_cases h8 : (r2 : Int) < 8
  · rw [decide_eq_true h8] at c3
    have sp : ∃ qs : List Nat, 1 ≤ qs.length ∧ qs.length ≤ 3 ∧ (∀ q ∈ qs, 1 ≤ q ∧ q ≤ 3 ∧ (w = h ∨ q = 2)) ∧ sAsg (tgN 6) (eIx (eFrz (fLst (aCons (eFrz (fLst (aCons (eC (.str "r2")) aNil))) (aCons (eFrz (fLst (aCons (eC (.str "r1")) (aCons (eC (.str "r2")) (aCons (eC (.str "r3")) aNil))))) aNil)))) (e1 gInt (eBin gEq (eIx (eVar 1) (eC (.int 0))) (eIx (eVar 1) (eC (.int 1)))))) [some (.ptr b), some (.tup [.int w, .int h]), some (.lst (M.map .str)), some (.str a), some (.int (r2 : Nat)), none, none, none] A2 = some (.nx [some (.ptr b), some (.tup [.int w, .int h]), some (.lst (M.map .str)), some (.str a), some (.int (r2 : Nat)), none, some (.lst (qs.map fun q => .str (tz false q))), none], A2) := by
      have t : eBin gEq (eIx (eVar 1) (eC (.int 0))) (eIx (eVar 1) (eC (.int 1))) [some (.ptr b), some (.tup [.int w, .int h]), some (.lst (M.map .str)), some (.str a), some (.int (r2 : Nat)), none, none, none] A2 = some (.bl (decide ((w : Int) = h)), A2) := bin_ev (ix_at (i := 0) rfl rfl rfl) (ix_at (i := 1) rfl rfl rfl) rfl
      have lit : eFrz (fLst (aCons (eFrz (fLst (aCons (eC (.str "r2")) aNil))) (aCons (eFrz (fLst (aCons (eC (.str "r1")) (aCons (eC (.str "r2")) (aCons (eC (.str "r3")) aNil))))) aNil))) [some (.ptr b), some (.tup [.int w, .int h]), some (.lst (M.map .str)), some (.str a), some (.int (r2 : Nat)), none, none, none] A2 = some (.lst [.lst [.str (tz false 2)], .lst [.str (tz false 1), .str (tz false 2), .str (tz false 3)]], A2) := rfl
      by_cases e : w = h
      · rw [decide_eq_true (by omega)] at t
        exact ⟨[1, 2, 3], by decide, by decide, fun q hq => by simp at hq; omega, asg_ev (idx3 (i := 1) lit (e1_ev t rfl) rfl)⟩
      · rw [decide_eq_false (by omega)] at t
        exact ⟨[2], by decide, by decide, fun q hq => by simp at hq; omega, asg_ev (idx3 (i := 0) lit (e1_ev t rfl) rfl)⟩
    obtain ⟨qs, q1, q2, qok, s3⟩ := sp
    have ln6 := len_lst (m := eVar 6) (δ := [some (.ptr b), some (.tup [.int w, .int h]), some (.lst (M.map .str)), some (.str a), some (.int (r2 : Nat)), none, some (.lst (qs.map fun q => .str (tz false q))), none]) (ah := A2) (l := qs.map fun q => .str (tz false q)) rfl
    rw [List.length_map] at ln6
    obtain ⟨r3, A3, t3, l3, g3⟩ := take_ev (i := 0) g2.at' rfl ln6 (many := qs.length) (by omega) (by omega)
    have hr3 : r3 < qs.length := by omega
    obtain ⟨q, hq⟩ : ∃ c, qs[r3]? = some c := ⟨_, List.getElem?_eq_getElem hr3⟩
    have qk := qok q (List.mem_of_getElem? hq)
    refine fin (d := .turn a q) ?_ ⟨haM, qk⟩ (g.trans g3)
    unfold s__law_deed
    exact (seq_nx s1).trans ((seq_nx s2).trans ((seq_skip c12).trans (seq_take c3 ((seq_nx s3).trans (ret_ev (tup_ev (cons_ev (a := eC (.str "turn")) rfl (cons_ev (a := eVar 3) rfl (cons_ev (idx3 (m := eVar 6) (var_ev rfl) t3 (by rw [List.getElem?_map, hq]; rfl)) (nil_ev _ _)))) (by simp)))))))
  rw [decide_eq_false h8] at c3
  have c4 : tOf (eBin gEq (eVar 4) (eC (.int 8))) [some (.ptr b), some (.tup [.int w, .int h]), some (.lst (M.map .str)), some (.str a), some (.int (r2 : Nat)), none, none, none] A2 = some (decide ((r2 : Int) = 8), A2) := rfl
  by_cases e8 : (r2 : Int) = 8
  · rw [decide_eq_true e8] at c4
    obtain ⟨c, A3, ef, nf, g3⟩ := ev_lface W.w1 W.w6 W.h1 W.h6 g2.at'
    refine fin (d := .cut a c) ?_ ⟨haM, nf⟩ (g.trans g3)
    unfold s__law_deed
    exact (seq_nx s1).trans ((seq_nx s2).trans ((seq_skip c12).trans ((seq_skip c3).trans (seq_take c4 (ret_ev (tup_ev (cons_ev (a := eC (.str "cut")) rfl (cons_ev (a := eVar 3) rfl (cons_ev ((call_ev (cons_ev (var_ev rfl) (cons_ev (var_ev rfl) (nil_ev _ _)))).trans ef) (nil_ev _ _)))) (by simp)))))))
  · rw [decide_eq_false e8] at c4
    refine fin (d := .print a) (A := A2) ?_ haM g
    unfold s__law_deed
    exact (seq_nx s1).trans ((seq_nx s2).trans ((seq_skip c12).trans ((seq_skip c3).trans ((seq_skip c4).trans rfl))))
theorem ev_doing (W : Wh w h) {M : List Str} (hM : Nms M) {row : List Dd} (hl : row.length ≤ 150) {ah : AH} (hb : BagAt ah b) : ∃ (x : Do) (ah' : AH), f__law_doing [.ptr b, .tup [.int w, .int h], .lst (M.map .str), .int row.length] ah = some (doD w h x, ah') ∧ DoOk M w h row x ∧ Bg b ah ah' := by
  obtain ⟨d, A1, e1, ok, g1⟩ := ev_ldeed (b := b) W hM hb
  have s1 : sAsg (tgN 4) (eCall f__law_deed (aCons (eVar 0) (aCons (eVar 1) (aCons (eVar 2) aNil)))) [some (.ptr b), some (.tup [.int w, .int h]), some (.lst (M.map .str)), some (.int row.length), none, none] ah = some (.nx [some (.ptr b), some (.tup [.int w, .int h]), some (.lst (M.map .str)), some (.int row.length), some (dD w h d), none], A1) := asg_ev ((call_ev (cons_ev (var_ev rfl) (cons_ev (var_ev rfl) (cons_ev (var_ev rfl) (nil_ev _ _))))).trans e1)
  obtain ⟨r, A2, t2, l2, g2⟩ := take_ev (δ := [some (.ptr b), some (.tup [.int w, .int h]), some (.lst (M.map .str)), some (.int row.length), some (dD w h d), none]) (i := 0) (m := eC (.int 5)) g1.at' rfl rfl (many := 5) (by decide) (by decide)
  have s2 : sAsg (tgN 5) (eCall f__law_take (aCons (eVar 0) (aCons (eC (.int 5)) aNil))) [some (.ptr b), some (.tup [.int w, .int h]), some (.lst (M.map .str)), some (.int row.length), some (dD w h d), none] A1 = some (.nx [some (.ptr b), some (.tup [.int w, .int h]), some (.lst (M.map .str)), some (.int row.length), some (dD w h d), some (.int (r : Nat))], A2) := asg_ev t2
  have g := g1.trans g2
  have fin : ∀ {x : Do} {A : AH}, s__law_doing [some (.ptr b), some (.tup [.int w, .int h]), some (.lst (M.map .str)), some (.int row.length), none, none] ah = some (.rt (doD w h x), A) → DoOk M w h row x → Bg b ah A → ∃ (x : Do) (ah' : AH), f__law_doing [.ptr b, .tup [.int w, .int h], .lst (M.map .str), .int row.length] ah = some (doD w h x, ah') ∧ DoOk M w h row x ∧ Bg b ah ah' := fun hs ok g => ⟨_, _, (fn_rt rfl hs).trans (congrArg some (trim_len0 g.len)), ok, g⟩
  have c1 : tOrM (tOf (eBin gLt (eVar 5) (eC (.int 2)))) (tOf (eBin gEq (eVar 3) (eC (.int 0)))) [some (.ptr b), some (.tup [.int w, .int h]), some (.lst (M.map .str)), some (.int row.length), some (dD w h d), some (.int (r : Nat))] A2 = some (decide ((r : Int) < 2) || decide ((row.length : Int) = 0), A2) := by
    have q1 : tOf (eBin gLt (eVar 5) (eC (.int 2))) [some (.ptr b), some (.tup [.int w, .int h]), some (.lst (M.map .str)), some (.int row.length), some (dD w h d), some (.int (r : Nat))] A2 = some (decide ((r : Int) < 2), A2) := rfl
    have q2 : tOf (eBin gEq (eVar 3) (eC (.int 0))) [some (.ptr b), some (.tup [.int w, .int h]), some (.lst (M.map .str)), some (.int row.length), some (dD w h d), some (.int (r : Nat))] A2 = some (decide ((row.length : Int) = 0), A2) := rfl
    cases hq : decide ((r : Int) < 2) with
    | true =>
      rw [hq] at q1
      exact tor_t q1
    | false =>
      rw [hq] at q1
      exact (tor_f q1).trans q2
  cases hc : (decide ((r : Int) < 2) || decide ((row.length : Int) = 0)) with
  | true =>
    rw [hc] at c1
    have md := modI (i := r) (j := 2) (a := eVar 5) (b := eC (.int 2)) (δ := [some (.ptr b), some (.tup [.int w, .int h]), some (.lst (M.map .str)), some (.int row.length), some (dD w h d), some (.int (r : Nat))]) (ah := A2) rfl rfl (by decide)
    have two : r % 2 = 0 ∨ r % 2 = 1 := by omega
    have lit : eFrz (fLst (aCons (eTup (aCons (eC (.str "do")) (aCons (eVar 4) aNil))) (aCons (eTup (aCons (eC (.str "slip")) (aCons (eVar 3) (aCons (eVar 4) aNil)))) aNil))) [some (.ptr b), some (.tup [.int w, .int h]), some (.lst (M.map .str)), some (.int row.length), some (dD w h d), some (.int (r : Nat))] A2 = some (.lst [doD w h (.ado d), doD w h (.slip row.length d)], A2) := rfl
    rcases two with e | e
    · rw [e] at md
      refine fin (x := .ado d) (A := A2) ?_ ok g
      unfold s__law_doing
      exact (seq_nx s1).trans ((seq_nx s2).trans (seq_take c1 (ret_ev (idx3 (i := 0) lit md rfl))))
    · rw [e] at md
      refine fin (x := .slip row.length d) (A := A2) ?_ ⟨ok, Nat.le_refl _⟩ g
      unfold s__law_doing
      exact (seq_nx s1).trans ((seq_nx s2).trans (seq_take c1 (ret_ev (idx3 (i := 1) lit md rfl))))
  | false =>
    rw [hc] at c1
    have pos : 1 ≤ row.length := by
      simp only [Bool.or_eq_false_iff, decide_eq_false_iff_not] at hc
      omega
    have c2 : tOf (eBin gEq (eVar 5) (eC (.int 2))) [some (.ptr b), some (.tup [.int w, .int h]), some (.lst (M.map .str)), some (.int row.length), some (dD w h d), some (.int (r : Nat))] A2 = some (decide ((r : Int) = 2), A2) := rfl
    have c3 : tOf (eBin gEq (eVar 5) (eC (.int 3))) [some (.ptr b), some (.tup [.int w, .int h]), some (.lst (M.map .str)), some (.int row.length), some (dD w h d), some (.int (r : Nat))] A2 = some (decide ((r : Int) = 3), A2) := rfl
    by_cases e2 : (r : Int) = 2
    · rw [decide_eq_true e2] at c2
      obtain ⟨a, A3, t3, l3, g3⟩ := take_ev (δ := [some (.ptr b), some (.tup [.int w, .int h]), some (.lst (M.map .str)), some (.int row.length), some (dD w h d), some (.int (r : Nat))]) (i := 0) (m := eBin gAdd (eVar 3) (eC (.int 1))) g2.at' rfl (add1 rfl) (many := ((row.length + 1 : Nat) : Int)) (by omega) (by omega)
      refine fin (x := .slip a d) (A := A3) ?_ ⟨ok, by omega⟩ (g.trans g3)
      unfold s__law_doing
      exact (seq_nx s1).trans ((seq_nx s2).trans ((seq_skip c1).trans (seq_take c2 (ret_ev (tup_ev (cons_ev (a := eC (.str "slip")) rfl (cons_ev t3 (cons_ev (a := eVar 4) (var_ev rfl) (nil_ev _ _)))) (by simp))))))
    rw [decide_eq_false e2] at c2
    obtain ⟨a, A3, t3, l3, g3⟩ := take_ev (δ := [some (.ptr b), some (.tup [.int w, .int h]), some (.lst (M.map .str)), some (.int row.length), some (dD w h d), some (.int (r : Nat))]) (i := 0) (m := eVar 3) g2.at' rfl (var_ev rfl) (many := ((row.length : Nat) : Int)) (by omega) (by omega)
    by_cases e3 : (r : Int) = 3
    · rw [decide_eq_true e3] at c3
      refine fin (x := .put a d) (A := A3) ?_ ⟨ok, by omega⟩ (g.trans g3)
      unfold s__law_doing
      exact (seq_nx s1).trans ((seq_nx s2).trans ((seq_skip c1).trans ((seq_skip c2).trans (seq_take c3 (ret_ev (tup_ev (cons_ev (a := eC (.str "put")) rfl (cons_ev t3 (cons_ev (a := eVar 4) (var_ev rfl) (nil_ev _ _)))) (by simp)))))))
    · rw [decide_eq_false e3] at c3
      refine fin (x := .take a) (A := A3) ?_ (by show a < row.length; omega) (g.trans g3)
      unfold s__law_doing
      exact (seq_nx s1).trans ((seq_nx s2).trans ((seq_skip c1).trans ((seq_skip c2).trans ((seq_skip c3).trans (ret_ev (tup_ev (cons_ev (a := eC (.str "take")) rfl (cons_ev t3 (nil_ev _ _))) (by simp)))))))
end
end K88

set_option linter.all false
set_option maxRecDepth 100000
namespace K88
open PySem L2 MM
section
variable {M : List Str} {w h : Nat} {st : Sts} {row : List Dd} {p u k : Nat} {ah : AH} {past undone : List (List Dd)}
theorem ev_row (hk : ah[k]? = some (bookO M w h st row p u)) : f_Book_row [.ptr k] ah = some (rowD w h row, ah) := by
  have hs : s_Book_row [some (.ptr k)] ah = some (.rt (rowD w h row), ah) := by
    unfold s_Book_row
    exact ret_ev (frz_ev (f1_ev (bfld (mo := eVar 0) (δ := [some (.ptr k)]) rfl hk lk_deeds) rfl))
  exact (fn_rt rfl hs).trans (by rw [trim_self])
theorem sfld_ev {f c : Str} {mo mv : ME} {δ : DL} {ah ah1 ah2 : AH} {d : D} {k : Nat} {l l' : List (Str × D)} (hv : mv δ ah = some (d, ah1)) (ho : mo δ ah1 = some (.ptr k, ah2)) (hk : ah2[k]? = some (.ins c l)) (hl : l.length < 100) (hs : MM.setAttr f d l = l') : sFldM [c] f mo mv δ ah = some (.nx δ, ah2.set k (.ins c l')) := by
  unfold sFldM
  rw [hv, Option.bind_some, ho, Option.bind_some]
  have : insAt ah2 k = some (c, l) := by simp [insAt, hk]
  simp only [this, Option.bind_some, List.mem_singleton, hs]
  rw [if_pos ⟨trivial, hl⟩]
theorem trim_keep {ah ah' : AH} {d : D} {n : Nat} {o : AO} (hn : n < ah.length) (e : ah'[n]? = some o) (ho : AO.bd ah.length o = false) : trim ah (d, ah') = (d, ah') := by
  unfold trim
  rw [if_neg]
  rw [Bool.and_eq_true]
  rintro ⟨-, h2⟩
  rw [List.all_eq_true] at h2
  have := h2 o (List.mem_of_getElem? (i := n) (by rw [List.getElem?_take_of_lt hn]; exact e))
  rw [ho] at this
  cases this
theorem stands0 : stands w h st [] = [st] := rfl
theorem ev_binit {n : Nat} (hn : ah[n]? = some (.ins "Book" [])) : f_Book___init__ [.ptr n, stD M w h st] ah = some (.non, (ah.set n (bookO M w h st [] ah.length (ah.length + 1))) ++ [.lst [], .lst []]) := by
  have lt := (List.getElem?_eq_some_iff.mp hn).1
  have s0 : sExpr (eCall f_good_or_wrong (aCons (eC (.int 0)) (aCons (eIsC "Stamps" (eVar 1)) aNil))) [some (.ptr n), some (stD M w h st)] ah = some (.nx [some (.ptr n), some (stD M w h st)], ah) :=
    exp_ev ((call_ev (cons_ev rfl (cons_ev (d := .bl true) rfl (nil_ev _ _)))).trans (ev_good _ _))
  have s1 := sfld_ev (f := "begun") (c := "Book") (mo := eVar 0) (mv := eVar 1) (δ := [some (.ptr n), some (stD M w h st)]) (l' := [("begun", stD M w h st)]) rfl rfl hn (by simp) rfl
  have n1 : (ah.set n (.ins "Book" [("begun", stD M w h st)]))[n]? = some (.ins "Book" [("begun", stD M w h st)]) := List.getElem?_set_self lt
  have a1 : MM.setAttr "deeds" (.lst []) [("begun", stD M w h st)] = ([("begun", stD M w h st), ("deeds", .lst [])] : List (Str × D)) := by
    have e1 : ¬ (("begun" : Str) = "deeds") := by decide +kernel
    simp [MM.setAttr, e1]
  have s2 := sfld_ev (f := "deeds") (c := "Book") (mo := eVar 0) (mv := eFrz (fLst aNil)) (δ := [some (.ptr n), some (stD M w h st)]) (d := .lst []) rfl rfl n1 (by simp) a1
  rw [List.set_set] at s2
  have n2 : (ah.set n (.ins "Book" [("begun", stD M w h st), ("deeds", .lst [])]))[n]? = some (.ins "Book" [("begun", stD M w h st), ("deeds", .lst [])]) := List.getElem?_set_self lt
  have a2 : MM.setAttr "stood" (.lst [stD M w h st]) [("begun", stD M w h st), ("deeds", .lst [])] = ([("begun", stD M w h st), ("deeds", .lst []), ("stood", .lst [stD M w h st])] : List (Str × D)) := by
    have e1 : ¬ (("begun" : Str) = "stood") := by decide +kernel
    have e2 : ¬ (("deeds" : Str) = "stood") := by decide +kernel
    simp [MM.setAttr, e1, e2]
  have s3 := sfld_ev (f := "stood") (c := "Book") (mo := eVar 0) (mv := eFrz (fLst (aCons (eVar 1) aNil))) (δ := [some (.ptr n), some (stD M w h st)]) (d := .lst [stD M w h st]) rfl rfl n2 (by simp) a2
  rw [List.set_set] at s3
  generalize e3 : ah.set n (.ins "Book" [("begun", stD M w h st), ("deeds", .lst []), ("stood", .lst [stD M w h st])]) = H3 at s3
  have l3 : H3.length = ah.length := by rw [← e3, List.length_set]
  have n3 : (H3 ++ [.lst []])[n]? = some (.ins "Book" [("begun", stD M w h st), ("deeds", .lst []), ("stood", .lst [stD M w h st])]) := by
    rw [List.getElem?_append_left (by omega), ← e3]
    exact List.getElem?_set_self lt
  have a3 : MM.setAttr "past" (.ptr H3.length) [("begun", stD M w h st), ("deeds", .lst []), ("stood", .lst [stD M w h st])] = ([("begun", stD M w h st), ("deeds", .lst []), ("stood", .lst [stD M w h st]), ("past", .ptr H3.length)] : List (Str × D)) := by
    have e1 : ¬ (("begun" : Str) = "past") := by decide +kernel
    have e2 : ¬ (("deeds" : Str) = "past") := by decide +kernel
    have e3 : ¬ (("stood" : Str) = "past") := by decide +kernel
    simp [MM.setAttr, e1, e2, e3]
  have s4 := sfld_ev (f := "past") (c := "Book") (mo := eVar 0) (mv := eOwn (fLst aNil)) (δ := [some (.ptr n), some (stD M w h st)]) (ah := H3) (d := .ptr H3.length) (own_ev (m := fLst aNil) (l := []) rfl) rfl n3 (by simp) a3
  have st4 : ∀ X, H3.set n X = ah.set n X := fun X => by rw [← e3, List.set_set]
  rw [List.set_append_left _ _ (by omega), st4] at s4
  generalize e4 : ah.set n (.ins "Book" [("begun", stD M w h st), ("deeds", .lst []), ("stood", .lst [stD M w h st]), ("past", .ptr H3.length)]) = H4 at s4
  have l4 : H4.length = ah.length := by rw [← e4, List.length_set]
  have n4 : (H4 ++ [.lst []] ++ [.lst []])[n]? = some (.ins "Book" [("begun", stD M w h st), ("deeds", .lst []), ("stood", .lst [stD M w h st]), ("past", .ptr H3.length)]) := by
    rw [List.append_assoc, List.getElem?_append_left (by omega), ← e4]
    exact List.getElem?_set_self lt
  have a4 : MM.setAttr "undone_rows" (.ptr (H4 ++ [AO.lst []]).length) [("begun", stD M w h st), ("deeds", .lst []), ("stood", .lst [stD M w h st]), ("past", .ptr H3.length)] = bookF M w h st [] ah.length (ah.length + 1) := by
    have e1 : ¬ (("begun" : Str) = "undone_rows") := by decide +kernel
    have e2 : ¬ (("deeds" : Str) = "undone_rows") := by decide +kernel
    have e3 : ¬ (("stood" : Str) = "undone_rows") := by decide +kernel
    have e4 : ¬ (("past" : Str) = "undone_rows") := by decide +kernel
    rw [List.length_append, l4, l3]
    simp [MM.setAttr, e1, e2, e3, e4, bookF, stands0]
  have s5 := sfld_ev (f := "undone_rows") (c := "Book") (mo := eVar 0) (mv := eOwn (fLst aNil)) (δ := [some (.ptr n), some (stD M w h st)]) (ah := H4 ++ [.lst []]) (d := .ptr (H4 ++ [AO.lst []]).length) (own_ev (m := fLst aNil) (l := []) rfl) rfl n4 (by simp) a4
  have st5 : ∀ X, H4.set n X = ah.set n X := fun X => by rw [← e4, List.set_set]
  rw [List.append_assoc, List.set_append_left _ _ (by omega), st5] at s5
  have hs : s_Book___init__ [some (.ptr n), some (stD M w h st)] ah = some (.nx [some (.ptr n), some (stD M w h st)], ah.set n (bookO M w h st [] ah.length (ah.length + 1)) ++ [.lst [], .lst []]) := by
    unfold s_Book___init__
    exact (seq_nx s0).trans ((seq_nx s1).trans ((seq_nx s2).trans ((seq_nx s3).trans ((seq_nx s4).trans s5))))
  refine (fn_nx rfl hs).trans (congrArg some (trim_keep (n := n) (o := bookO M w h st [] ah.length (ah.length + 1)) lt ?_ ?_))
  · rw [List.getElem?_append_left (by rw [List.length_set]; exact lt)]
    exact List.getElem?_set_self lt
  · show D.bdF ah.length (bookF M w h st [] ah.length (ah.length + 1)) = false
    simp [bookF, D.bdF, D.bd]
end
end K88

set_option linter.all false
set_option maxRecDepth 100000
namespace K88
open PySem L2 MM
theorem consS {A R : AH} {x z : AO} {L : Nat} (e : A.length = L) : (A ++ x :: R).set L z = A ++ z :: R := by subst e; simp
theorem consG {A R : AH} {x : AO} {L : Nat} (e : A.length = L) : (A ++ x :: R)[L]? = some x := by subst e; simp
theorem glist_ptr {H : AH} {n : Nat} {l : List D} (e : H[n]? = some (.lst l)) : gList H (.ptr n) = some l := by
  have hK : asK H (.ptr n) = none := by simp [asK, e]
  simp [gList, hK, asR, asL, e]
section
variable {M : List Str} {w h : Nat} {st : Sts} {row : List Dd} {p u k : Nat} {ah : AH} {past undone : List (List Dd)}
theorem row_bds (n : Nat) (r : List Dd) : D.bds n (r.map (dD w h)) = true := bds_map (fun d => by
  cases d <;> simp [dD, D.bd, D.bds, fD_bd]) r
theorem ev_copied (hb : Bd ah) (B : BookAt M w h ah k p u st row past undone) : ∃ ah', f_Book_copied [.ptr k] ah = some (.ptr ah.length, ah') ∧ BookAt M w h ah' ah.length (ah.length + 3) (ah.length + 4) st row past undone ∧ Fr ah ah' [] ∧ ah'.length = ah.length + 5 ∧ Bd ah' := by
  obtain ⟨b1, b2, b3, kp, ku, pu⟩ := id B
  have lk := (List.getElem?_eq_some_iff.mp b1).1
  have lp := (List.getElem?_eq_some_iff.mp b2).1
  have lu := (List.getElem?_eq_some_iff.mp b3).1
  have up : ∀ {R : AH} {i : Nat}, i < ah.length → (ah ++ R)[i]? = ah[i]? := fun hi => List.getElem?_append_left hi
  have mk : eMake "Book" f_Book___init__ (aCons (eFld ["Book"] "begun" (eVar 0)) aNil) [some (.ptr k), none] ah = some (.ptr ah.length, ah ++ .ins "Book" (bk (stD M w h st) (.lst []) (.lst [stD M w h st]) (.ptr (ah.length + 1)) (.ptr (ah.length + 2))) :: [.lst [], .lst []]) := by
    unfold eMake
    rw [cons_ev (bfld (f := "begun") (mo := eVar 0) (δ := [some (.ptr k), none]) rfl b1 lk_begun) (nil_ev _ _), Option.bind_some]
    have i := ev_binit (M := M) (w := w) (h := h) (st := st) (ah := ah ++ [.ins "Book" []]) (n := ah.length) (by simp)
    rw [consS rfl, List.length_append, List.append_assoc] at i
    simp only [i, Option.bind_some]
    rfl
  have s1 : sAsg (tgN 1) (eMake "Book" f_Book___init__ (aCons (eFld ["Book"] "begun" (eVar 0)) aNil)) [some (.ptr k), none] ah = some (.nx [some (.ptr k), some (.ptr ah.length)], ah ++ .ins "Book" (bk (stD M w h st) (.lst []) (.lst [stD M w h st]) (.ptr (ah.length + 1)) (.ptr (ah.length + 2))) :: [.lst [], .lst []]) := asg_ev mk
  have fd : ∀ {R : AH} {f : Str} {e : D}, (bookF M w h st row p u).lookup f = some e → eFld ["Book"] f (eVar 0) [some (.ptr k), some (.ptr ah.length)] (ah ++ R) = some (e, ah ++ R) := fun hf => bfld (mo := eVar 0) (δ := [some (.ptr k), some (.ptr ah.length)]) rfl ((up lk).trans b1) hf
  have s2 := fldM_ev (f := "deeds") (mo := eVar 1) (mv := eFrz (f1 gList (eFld ["Book"] "deeds" (eVar 0)))) (frz_ev (f1_ev (fd lk_deeds) rfl)) rfl (consG (A := ah) (x := .ins "Book" (bk (stD M w h st) (.lst []) (.lst [stD M w h st]) (.ptr (ah.length + 1)) (.ptr (ah.length + 2)))) (R := [.lst [], .lst []]) rfl) (set_deeds ..)
  rw [consS rfl] at s2
  have s3 := fldM_ev (f := "stood") (mo := eVar 1) (mv := eFrz (f1 gList (eFld ["Book"] "stood" (eVar 0)))) (frz_ev (f1_ev (fd lk_stood) rfl)) rfl (consG (A := ah) (x := .ins "Book" (bk (stD M w h st) (.lst (row.map (dD w h))) (.lst [stD M w h st]) (.ptr (ah.length + 1)) (.ptr (ah.length + 2)))) (R := [.lst [], .lst []]) rfl) (set_stood ..)
  rw [consS rfl] at s3
  have own : ∀ {x : AO} {R : AH} {f : Str} {n : Nat} {l : List D}, (bookF M w h st row p u).lookup f = some (.ptr n) → n < ah.length → ah[n]? = some (.lst l) → eOwn (f1 gList (eFld ["Book"] f (eVar 0))) [some (.ptr k), some (.ptr ah.length)] (ah ++ x :: R) = some (.ptr (ah.length + (R.length + 1)), ah ++ x :: (R ++ [.lst l])) := fun hf hn e => by
    refine (own_ev (f1_ev (fd hf) (glist_ptr ((up hn).trans e)))).trans ?_
    rw [List.length_append, List.append_assoc]
    rfl
  have s4 := fldM_ev (f := "past") (mo := eVar 1) (mv := eOwn (f1 gList (eFld ["Book"] "past" (eVar 0)))) (own lk_past lp b2) rfl (consG (A := ah) (x := .ins "Book" (bk (stD M w h st) (.lst (row.map (dD w h))) (.lst ((stands w h st row).map (stD M w h))) (.ptr (ah.length + 1)) (.ptr (ah.length + 2)))) (R := [.lst [], .lst []] ++ [.lst (past.map (rowD w h))]) rfl) (set_past ..)
  rw [consS rfl] at s4
  have s5 := fldM_ev (f := "undone_rows") (mo := eVar 1) (mv := eOwn (f1 gList (eFld ["Book"] "undone_rows" (eVar 0)))) (own lk_undone lu b3) rfl (consG (A := ah) (x := .ins "Book" (bk (stD M w h st) (.lst (row.map (dD w h))) (.lst ((stands w h st row).map (stD M w h))) (.ptr (ah.length + 3)) (.ptr (ah.length + 2)))) (R := [.lst [], .lst [], .lst (past.map (rowD w h))] ++ [.lst (undone.map (rowD w h))]) rfl) (set_undone ..)
  rw [consS rfl] at s5
  have hs : s_Book_copied [some (.ptr k), none] ah = some (.rt (.ptr ah.length), ah ++ bookO M w h st row (ah.length + 3) (ah.length + 4) :: [.lst [], .lst [], .lst (past.map (rowD w h)), .lst (undone.map (rowD w h))]) := by
    unfold s_Book_copied
    exact (seq_nx s1).trans ((seq_nx s2).trans ((seq_nx s3).trans ((seq_nx s4).trans ((seq_nx s5).trans rfl))))
  refine ⟨_, (fn_rt rfl hs).trans (congrArg some (trim_ptr (Nat.le_refl _))), ⟨consG rfl, ?_, ?_, by omega, by omega, by omega⟩, ⟨by simp, fun i hi _ => up hi⟩, by simp, ?_⟩
  · rw [List.getElem?_append_right (by omega), Nat.add_sub_cancel_left]; rfl
  · rw [List.getElem?_append_right (by omega), Nat.add_sub_cancel_left]; rfl
  · intro o ho
    have hlen : (ah ++ bookO M w h st row (ah.length + 3) (ah.length + 4) :: [.lst [], .lst [], .lst (past.map (rowD w h)), .lst (undone.map (rowD w h))]).length = ah.length + 5 := by simp
    rw [hlen]
    rcases List.mem_append.mp ho with ho | ho
    · exact AO.bd_mono (by omega) o (hb o ho)
    · simp only [List.mem_cons, List.not_mem_nil, or_false] at ho
      rcases ho with rfl | rfl | rfl | rfl | rfl
      · exact book_bd (by omega) (by omega)
      · rfl
      · rfl
      · exact rows_bd _ _
      · exact rows_bd _ _
end
end K88

set_option linter.all false
set_option maxRecDepth 100000
namespace K88
open PySem L2 MM
theorem bds_all {n : Nat} : ∀ {l : List D}, D.bds n l = true ↔ ∀ d ∈ l, D.bd n d = true
  | [] => by simp [D.bds]
  | a :: r => by
    rw [D.bds, Bool.and_eq_true, bds_all (l := r)]
    simp
def endT : D := .tup [.int 0, .str "a"]
/-- what may come of a told list -/
def Told (T T' : List D) : Prop := (∀ d ∈ T', d ∈ T ∨ d = endT) ∧ T'.length ≤ T.length + 1
theorem ev_lchanged {ah : AH} {b t l : Nat} {T Hs : List D} (hBd : Bd ah) (hb : BagAt ah b) (ht : ah[t]? = some (.lst T)) (hl : ah[l]? = some (.lst Hs)) (bt : b ≠ t) (bl : b ≠ l) (tl : t ≠ l) (nT : T.length < 90000) (nH : Hs.length < 90000) :
    ∃ (ah' : AH) (T' : List D), f__law_changed [.ptr b, .ptr t, .ptr l] ah = some (.non, ah') ∧ Told T T' ∧ BagAt ah' b ∧ ah'[l]? = some (.lst (Hs ++ [.tup [.lst T', .lst T']])) ∧ ah'.length = ah.length ∧ (∀ i, i ≠ b → i ≠ t → i ≠ l → ah'[i]? = ah[i]?) ∧ Bd ah' := by
  obtain ⟨r, A1, t1, l1, g1⟩ := take_ev (δ := [some (.ptr b), some (.ptr t), some (.ptr l), none]) (i := 0) (m := eC (.int 3)) hb rfl rfl (many := 3) (by decide) (by decide)
  have ht1 : A1[t]? = some (.lst T) := (g1.get (Ne.symm bt)).trans ht
  have hl1 : A1[l]? = some (.lst Hs) := (g1.get (Ne.symm bl)).trans hl
  have hB1 := g1.bd hBd
  have lt := (List.getElem?_eq_some_iff.mp ht1).1
  have ll := (List.getElem?_eq_some_iff.mp hl1).1
  have bT : D.bds A1.length T = true := hB1 _ (List.mem_of_getElem? ht1)
  have bH : D.bds A1.length Hs = true := hB1 _ (List.mem_of_getElem? hl1)
  have s1 : sAsg (tgN 3) (eCall f__law_take (aCons (eVar 0) (aCons (eC (.int 3)) aNil))) [some (.ptr b), some (.ptr t), some (.ptr l), none] ah = some (.nx [some (.ptr b), some (.ptr t), some (.ptr l), some (.int (r : Nat))], A1) := asg_ev t1
  have s2 : ∃ T1 : List D, sIf (tOf (eBin gEq (eVar 3) (eC (.int 0)))) (sExpr (eMut gClear (eVar 1) aNil)) (sIf (tOf (eBin gEq (eVar 3) (eC (.int 1)))) (sExpr (eMut gReverse (eVar 1) aNil)) sNil) [some (.ptr b), some (.ptr t), some (.ptr l), some (.int (r : Nat))] A1 = some (.nx [some (.ptr b), some (.ptr t), some (.ptr l), some (.int (r : Nat))], A1.set t (.lst T1)) ∧ (∀ d ∈ T1, d ∈ T) ∧ T1.length ≤ T.length := by
    have c0 : tOf (eBin gEq (eVar 3) (eC (.int 0))) [some (.ptr b), some (.ptr t), some (.ptr l), some (.int (r : Nat))] A1 = some (decide ((r : Int) = 0), A1) := rfl
    have c1 : tOf (eBin gEq (eVar 3) (eC (.int 1))) [some (.ptr b), some (.ptr t), some (.ptr l), some (.int (r : Nat))] A1 = some (decide ((r : Int) = 1), A1) := rfl
    by_cases e0 : (r : Int) = 0
    · rw [decide_eq_true e0] at c0
      exact ⟨[], (if_t c0).trans (exp_ev (mut_ev (mo := eVar 1) (d := .non) rfl ht1 (nil_ev _ _) ht1 rfl)), by simp, by simp⟩
    rw [decide_eq_false e0] at c0
    by_cases e1 : (r : Int) = 1
    · rw [decide_eq_true e1] at c1
      exact ⟨T.reverse, (if_f c0).trans ((if_t c1).trans (exp_ev (mut_ev (mo := eVar 1) (d := .non) rfl ht1 (nil_ev _ _) ht1 rfl))), by simp, by simp⟩
    rw [decide_eq_false e1] at c1
    refine ⟨T, (if_f c0).trans ((nil_t c1).trans ?_), fun _ h => h, Nat.le_refl _⟩
    congr 2
    refine List.ext_getElem? fun i => ?_
    by_cases hi : t = i
    · subst hi
      rw [List.getElem?_set_self lt, ht1]
    · rw [List.getElem?_set_ne hi]
  obtain ⟨T1, s2, m1, n1⟩ := s2
  have ht2 : (A1.set t (.lst T1))[t]? = some (.lst T1) := List.getElem?_set_self lt
  have s3 : sExpr (eMut gAppend (eVar 1) (aCons (eTup (aCons (eC (.int 0)) (aCons (eC (.str "a")) aNil))) aNil)) [some (.ptr b), some (.ptr t), some (.ptr l), some (.int (r : Nat))] (A1.set t (.lst T1)) = some (.nx [some (.ptr b), some (.ptr t), some (.ptr l), some (.int (r : Nat))], A1.set t (.lst (T1 ++ [endT]))) := by
    refine (exp_ev (mut_ev (mo := eVar 1) (d := .non) (l' := T1 ++ [endT]) (ds := [endT]) rfl ht2 rfl ht2 ?_)).trans ?_
    · simp only [gAppend]
      rw [if_pos (by omega)]
    · rw [List.set_set]
  have fz : freeze (.ptr t, A1.set t (.lst (T1 ++ [endT]))) = some (.lst (T1 ++ [endT]), A1.set t .gone) := by
    unfold freeze
    simp only [List.getElem?_set_self lt]
    rw [List.set_set]
  have hl2 : (A1.set t .gone)[l]? = some (.lst Hs) := (List.getElem?_set_ne tl).trans hl1
  have s4 : sExpr (eMut gAppend (eVar 2) (aCons (eTup (aCons (eVar 1) (aCons (eFrz (f1 gList (eVar 1))) aNil))) aNil)) [some (.ptr b), some (.lst (T1 ++ [endT])), some (.ptr l), some (.int (r : Nat))] (A1.set t .gone) = some (.nx [some (.ptr b), some (.lst (T1 ++ [endT])), some (.ptr l), some (.int (r : Nat))], (A1.set t .gone).set l (.lst (Hs ++ [.tup [.lst (T1 ++ [endT]), .lst (T1 ++ [endT])]]))) := by
    refine exp_ev (mut_ev (mo := eVar 2) (d := .non) (ds := [.tup [.lst (T1 ++ [endT]), .lst (T1 ++ [endT])]]) rfl hl2 rfl hl2 ?_)
    simp only [gAppend]
    rw [if_pos (by omega)]
  have hs : s__law_changed [some (.ptr b), some (.ptr t), some (.ptr l), none] ah = some (.nx [some (.ptr b), some (.lst (T1 ++ [endT])), some (.ptr l), some (.int (r : Nat))], (A1.set t .gone).set l (.lst (Hs ++ [.tup [.lst (T1 ++ [endT]), .lst (T1 ++ [endT])]]))) := by
    unfold s__law_changed
    exact (seq_nx s1).trans ((seq_nx s2).trans ((seq_nx s3).trans ((frz_slot rfl fz).trans s4)))
  have len : ((A1.set t .gone).set l (.lst (Hs ++ [.tup [.lst (T1 ++ [endT]), .lst (T1 ++ [endT])]]))).length = ah.length := by rw [List.length_set, List.length_set, g1.len]
  have bT' : D.bds A1.length (T1 ++ [endT]) = true := bds_all.mpr fun d hd => by
    rcases List.mem_append.mp hd with h | h
    · exact bds_all.mp bT d (m1 d h)
    · rw [List.mem_singleton.mp h]; rfl
  refine ⟨_, T1 ++ [endT], (fn_nx rfl hs).trans (congrArg some (trim_len0 len)), ⟨fun d hd => ?_, by simp; omega⟩, ?_, List.getElem?_set_self (by rw [List.length_set]; exact ll), len, fun i ib it il => ?_, ?_⟩
  · rcases List.mem_append.mp hd with h | h
    · exact .inl (m1 d h)
    · exact .inr (List.mem_singleton.mp h)
  · obtain ⟨v0, v1, v2, cs, e, ok⟩ := g1.at'
    exact ⟨v0, v1, v2, cs, (List.getElem?_set_ne (Ne.symm bl)).trans ((List.getElem?_set_ne (Ne.symm bt)).trans e), ok⟩
  · exact (List.getElem?_set_ne (Ne.symm il)).trans ((List.getElem?_set_ne (Ne.symm it)).trans (g1.get ib))
  · refine (hB1.set (o := .gone) rfl).set ?_
    rw [List.length_set]
    refine bds_all.mpr fun d hd => ?_
    rcases List.mem_append.mp hd with h | h
    · exact bds_all.mp bH d h
    · rw [List.mem_singleton.mp h]
      show (D.bd A1.length (.lst (T1 ++ [endT])) && (D.bd A1.length (.lst (T1 ++ [endT])) && true)) = true
      have : D.bd A1.length (.lst (T1 ++ [endT])) = true := bT'
      rw [this]
      rfl
end K88

set_option linter.all false
set_option maxRecDepth 100000
namespace K88
open PySem L2 MM
/-- trim at a def's end: cut or not, what stood at the older places stands there -/
theorem trim_two {ah ah' : AH} {d : D} (hl : ah.length ≤ ah'.length) (hb : Bd ah') : ∃ ah'', trim ah (d, ah') = (d, ah'') ∧ (∀ i, i < ah.length → ah''[i]? = ah'[i]?) ∧ Bd ah'' ∧ ah.length ≤ ah''.length ∧ (ah'' = ah' ∨ (ah''.length = ah.length ∧ ∀ o ∈ ah'', AO.bd ah.length o = true)) := by
  unfold trim
  split
  · rename_i h
    simp only [Bool.and_eq_true, List.all_eq_true] at h
    have e : (ah'.take ah.length).length = ah.length := by rw [List.length_take]; omega
    exact ⟨ah'.take ah.length, rfl, fun i hi => List.getElem?_take_of_lt hi, fun o ho => by rw [e]; exact h.2 o ho, by omega, .inr ⟨e, h.2⟩⟩
  · exact ⟨_, rfl, fun _ _ => rfl, hb, hl, .inl rfl⟩
section
variable {M : List Str} {w h : Nat}
theorem tells_pb (hM : Nms M) (A B : List Sts) : ∀ d ∈ tells M w h A B, pb 1 d = true := fun d hd => by
  obtain ⟨k, _, hd⟩ := List.mem_flatMap.mp hd
  obtain ⟨n, hn, rfl⟩ := List.mem_map.mp hd
  have hn := (List.mem_filter.mp hn).1
  have hn : n ∈ M := (sortBy_perm (le := leS) M).mem_iff.mp hn
  show ([D.int (k : Nat), .str n].all (pb 0)) = true
  have : pb 0 (.str n) = true := name_ok (hM.ok n hn)
  simp only [List.all_cons, List.all_nil, this]
  rfl
theorem endT_pb : pb 1 endT = true := by decide +kernel
/-- what the law holds -/
def HeldOk (Hs : List D) : Prop := ∀ d ∈ Hs, ∃ T : List D, d = .tup [.lst T, .lst T] ∧ ∀ x ∈ T, pb 1 x = true
theorem held_same {ah : AH} {T : List D} (hT : ∀ x ∈ T, pb 1 x = true) : gNe ah (.lst T) (.lst T) = some (.bl false) := by
  have p : pb 2 (.lst T) = true := by
    show T.all (pb 1) = true
    exact List.all_eq_true.mpr hT
  unfold gNe
  rw [dEq_pb (n := 2) (by decide) p p]
  simp
/-- the last comprehension -/
theorem held_none {δ : DL} {ah : AH} : ∀ {Hs : List D}, HeldOk Hs → 9 < δ.length → compGo (tgT (tgCons (tgN 8) (tgCons (tgN 9) tgNil))) (tOf (eBin gNe (eVar 8) (eVar 9))) (eC (.int 1)) δ Hs ah = some ([], ah)
  | [], _, _ => rfl
  | d :: r, hh, hl => by
    obtain ⟨T, rfl, hT⟩ := hh d (by simp)
    have ih := held_none (δ := δ) (ah := ah) (Hs := r) (fun d hd => hh d (by simp [hd])) hl
    have g : tgT (tgCons (tgN 8) (tgCons (tgN 9) tgNil)) (.tup [.lst T, .lst T]) δ = some ((δ.set 8 (some (.lst T))).set 9 (some (.lst T))) := rfl
    have t : tOf (eBin gNe (eVar 8) (eVar 9)) ((δ.set 8 (some (.lst T))).set 9 (some (.lst T))) ah = some (false, ah) := tof_ev (bin_ev (var_ev ((get_set_ne (by decide)).trans (get_set (by omega)))) (var_ev (get_set (by rw [List.length_set]; exact hl))) (held_same hT))
    simp only [compGo, g, t, ih, Option.bind_some, Bool.false_eq_true, if_false]
/-- one side of the law: a book, the rows it has been, where it stands -/
structure Side (M : List Str) (w h : Nat) (st : Sts) (ah : AH) (s k p u : Nat) (rows : List (List Dd)) (at' n : Nat) : Prop where
  sd : ah[s]? = some (.lst [.ptr k, .lst (rows.map (rowD w h)), .int (at' : Nat)])
  lt : at' < rows.length
  bk : BookAt M w h ah k p u st (rows.getD at' []) (rows.take at') (rows.drop (at' + 1)).reverse
  ok : ∀ z ∈ rows, ∀ d ∈ z, DOk M w h d
  le : ∀ z ∈ rows, z.length ≤ n
  ct : rows.length ≤ n + 1
end
end K88

set_option linter.all false
set_option maxRecDepth 100000
namespace K88
open PySem L2 MM
theorem row_no {M : List Str} {w h : Nat} {st : Sts} {row : List Dd} {p u : Nat} : (bookF M w h st row p u).lookup ("row" : Str) = none := lk_no (by decide +kernel) (by decide +kernel) (by decide +kernel) (by decide +kernel) (by decide +kernel)
theorem subLp_ev {δ : DL} {H : AH} {j b i : Nat} {l : List D} {d : D} {m : ME} (v : δ[j]? = some (some (.ptr b))) (hl : H[b]? = some (.lst l)) (hi : i < l.length) (hm : m δ H = some (d, H)) : sSubL (eVar j) (eC (.int (i : Nat))) m δ H = some (.nx δ, H.set b (.lst (l.set i d))) := by
  have e : lstAt H b = some l := by simp [lstAt, hl]
  unfold sSubL
  rw [hm, Option.bind_some, var_ev v, Option.bind_some]
  show (Option.bind (some (D.int (i : Nat), H)) _) = _
  rw [Option.bind_some]
  simp only [e, Option.bind_some, ixN]
  rw [if_pos (by omega), if_pos (by omega), Option.map_some, Int.toNat_natCast]
section
variable {M : List Str} {w h : Nat} {st : Sts}
theorem rowD_pb (hM : Nms M) {row : List Dd} (hr : ∀ d ∈ row, DOk M w h d) : pb 3 (rowD w h row) = true := by
  show (row.map (dD w h)).all (pb 2) = true
  refine List.all_eq_true.mpr fun d hd => ?_
  obtain ⟨x, hx, rfl⟩ := List.mem_map.mp hd
  exact dD_pb hM (hr x hx)
def stD14 (b w h : Nat) (M : List Str) (st : Sts) (s l k : Nat) (rows : List (List Dd)) (at' : Nat) (o9 : Option D) (to t : Nat) (o12 o13 : Option D) : DL := [some (.ptr b), some (.tup [.int w, .int h]), some (.lst (M.map .str)), some (lawD M w h st), some (.ptr s), some (.ptr l), some (.ptr k), some (.lst (rows.map (rowD w h))), some (.int (at' : Nat)), o9, some (.int (to : Nat)), some (.ptr t), o12, o13]
theorem step_tail (W : Wh w h) (hM : Nms M) {A : AH} {b l s k p u t : Nat} {rows : List (List Dd)} {at' to n : Nat} {Hs : List D} {o9 o12 o13 : Option D} (hBd : Bd A) (hb : BagAt A b) (hl : A[l]? = some (.lst Hs)) (hh : HeldOk Hs) (nH : Hs.length ≤ 1000)
    (hs : A[s]? = some (.lst [.ptr k, .lst (rows.map (rowD w h)), .int (at' : Nat)])) (la : at' < rows.length) (lt : to < rows.length) (ok : ∀ z ∈ rows, ∀ d ∈ z, DOk M w h d) (le : ∀ z ∈ rows, z.length ≤ 150)
    (hk : A[k]? = some (bookO M w h st (rows.getD to []) p u)) (ht : A[t]? = some (.lst (tells M w h (stands w h st (rows.getD at' [])) (stands w h st (rows.getD to [])))))
    (nt : (tells M w h (stands w h st (rows.getD at' [])) (stands w h st (rows.getD to []))).length < 90000)
    (bt : b ≠ t) (bl : b ≠ l) (tl : t ≠ l) (sb : s ≠ b) (st' : s ≠ t) (sl : s ≠ l) (kb : k ≠ b) (kt : k ≠ t) (kl : k ≠ l) (ks : k ≠ s) :
    ∃ (A' : AH) (Hs' : List D), (sSeq (sIf (tOf (eBin gNe (eVar 11) (eCall f__law_otherwise (aCons (eCall f__law_stood (aCons (eVar 3) (aCons (eIx (eVar 7) (eVar 8)) aNil))) (aCons (eCall f__law_stood (aCons (eVar 3) (aCons (eIx (eVar 7) (eVar 10)) aNil))) aNil))))) (sRet (eC (.bl false))) sNil) (sSeq (sExpr (eCall f__law_changed (aCons (eVar 0) (aCons (eVar 11) (aCons (eVar 5) aNil))))) (sSeq (sSubL (eVar 4) (eC (.int 2)) (eVar 10)) (sRet (eBin gEq (eMeth [("Book", f_Book_row)] "row" (eVar 6) aNil) (eIx (eVar 7) (eVar 10))))))) (stD14 b w h M st s l k rows at' o9 to t o12 o13) A = some (.rt (.bl true), A') ∧
      HeldOk Hs' ∧ Hs'.length ≤ Hs.length + 1 ∧ BagAt A' b ∧ A'[l]? = some (.lst Hs') ∧ A'[s]? = some (.lst [.ptr k, .lst (rows.map (rowD w h)), .int (to : Nat)]) ∧ A'.length = A.length ∧ (∀ i, i ≠ b → i ≠ t → i ≠ l → i ≠ s → A'[i]? = A[i]?) ∧ Bd A' := by
  have ra : ∀ {i}, i < rows.length → rows[i]? = some (rows.getD i []) := fun hi => by simp [hi]
  have mem : ∀ {i}, i < rows.length → rows.getD i [] ∈ rows := fun hi => List.mem_of_getElem? (ra hi)
  have rx : ∀ {i : Nat} {j : Nat} {H : AH}, i < rows.length → (stD14 b w h M st s l k rows at' o9 to t o12 o13)[j]? = some (some (.int (i : Nat))) → eIx (eVar 7) (eVar j) (stD14 b w h M st s l k rows at' o9 to t o12 o13) H = some (rowD w h (rows.getD i []), H) := fun hi v => idx3 (m := eVar 7) (var_ev rfl) (var_ev v) (by rw [List.getElem?_map, ra hi]; rfl)
  have sx : ∀ {i : Nat} {j : Nat}, i < rows.length → (stD14 b w h M st s l k rows at' o9 to t o12 o13)[j]? = some (some (.int (i : Nat))) → eCall f__law_stood (aCons (eVar 3) (aCons (eIx (eVar 7) (eVar j)) aNil)) (stD14 b w h M st s l k rows at' o9 to t o12 o13) A = some (.lst ((stands w h st (rows.getD i [])).map (lawD M w h)), A) := fun hi v =>
    (call_ev (cons_ev (var_ev rfl) (cons_ev (rx hi v) (nil_ev _ _)))).trans (ev_lstood hM W.w1 W.w6 W.h1 W.h6 (ok _ (mem hi)) (by have := le _ (mem hi); omega) hBd)
  have tl1 : ∀ x ∈ tells M w h (stands w h st (rows.getD at' [])) (stands w h st (rows.getD to [])), pb 1 x = true := tells_pb hM _ _
  have t0 : tOf (eBin gNe (eVar 11) (eCall f__law_otherwise (aCons (eCall f__law_stood (aCons (eVar 3) (aCons (eIx (eVar 7) (eVar 8)) aNil))) (aCons (eCall f__law_stood (aCons (eVar 3) (aCons (eIx (eVar 7) (eVar 10)) aNil))) aNil)))) (stD14 b w h M st s l k rows at' o9 to t o12 o13) A = some (false, A) := by
    refine tof_ev (bin_ev (var_ev rfl) ((call_ev (cons_ev (sx la rfl) (cons_ev (sx lt rfl) (nil_ev _ _)))).trans (ev_lother hM (by rw [stands_len]; have := le _ (mem la); omega) hBd)) ?_)
    unfold gNe
    rw [dEq_ptr (m := 1) (by decide) ht (List.all_eq_true.mpr tl1) (List.all_eq_true.mpr tl1)]
    simp
  obtain ⟨A2, T', e2, ⟨to1, to2⟩, b2, l2, n2, f2, bd2⟩ := ev_lchanged hBd hb ht hl bt bl tl nt (by omega)
  have s2 : sExpr (eCall f__law_changed (aCons (eVar 0) (aCons (eVar 11) (aCons (eVar 5) aNil)))) (stD14 b w h M st s l k rows at' o9 to t o12 o13) A = some (.nx (stD14 b w h M st s l k rows at' o9 to t o12 o13), A2) := exp_ev ((call_ev (cons_ev (var_ev rfl) (cons_ev (var_ev rfl) (cons_ev (var_ev rfl) (nil_ev _ _))))).trans e2)
  have hs2 : A2[s]? = some (.lst [.ptr k, .lst (rows.map (rowD w h)), .int (at' : Nat)]) := (f2 s sb st' sl).trans hs
  have ls := (List.getElem?_eq_some_iff.mp hs2).1
  have s3 := subLp_ev (δ := stD14 b w h M st s l k rows at' o9 to t o12 o13) (j := 4) (i := 2) (d := .int (to : Nat)) (m := eVar 10) rfl hs2 (by simp) rfl
  have hk3 : (A2.set s (.lst [.ptr k, .lst (rows.map (rowD w h)), .int (to : Nat)]))[k]? = some (bookO M w h st (rows.getD to []) p u) := (List.getElem?_set_ne (Ne.symm ks)).trans ((f2 k kb kt kl).trans hk)
  have s4 : sRet (eBin gEq (eMeth [("Book", f_Book_row)] "row" (eVar 6) aNil) (eIx (eVar 7) (eVar 10))) (stD14 b w h M st s l k rows at' o9 to t o12 o13) (A2.set s (.lst [.ptr k, .lst (rows.map (rowD w h)), .int (to : Nat)])) = some (.rt (.bl true), A2.set s (.lst [.ptr k, .lst (rows.map (rowD w h)), .int (to : Nat)])) := by
    refine ret_ev (bin_ev ((bmeth (var_ev rfl) hk3 row_no (nil_ev _ _)).trans (ev_row hk3)) (rx lt rfl) ?_)
    have := rowD_pb (w := w) (h := h) hM (ok _ (mem lt))
    unfold gEq
    rw [dEq_pb (n := 3) (by decide) this this]
    simp
  refine ⟨_, Hs ++ [.tup [.lst T', .lst T']], (seq_skip t0).trans ((seq_nx s2).trans ((seq_nx s3).trans s4)), fun d hd => ?_, by simp, ?_, (List.getElem?_set_ne sl).trans l2, List.getElem?_set_self ls, by rw [List.length_set, n2], fun i i1 i2 i3 i4 => (List.getElem?_set_ne (Ne.symm i4)).trans (f2 i i1 i2 i3), bd2.set ?_⟩
  · rcases List.mem_append.mp hd with h1 | h1
    · exact hh d h1
    · refine ⟨T', List.mem_singleton.mp h1, fun x hx => ?_⟩
      rcases to1 x hx with h2 | h2
      · exact tl1 x h2
      · rw [h2]; exact endT_pb
  · obtain ⟨v0, v1, v2, cs, e, o⟩ := b2
    exact ⟨v0, v1, v2, cs, (List.getElem?_set_ne sb).trans e, o⟩
  · have := bd2 _ (List.mem_of_getElem? hs2)
    exact this
end
end K88

set_option linter.all false
set_option maxRecDepth 100000
namespace K88
open PySem L2 MM
section
variable {M : List Str} {w h : Nat} {st : Sts}
theorem book_bd_inv {n p u : Nat} {row : List Dd} (hh : AO.bd n (bookO M w h st row p u) = true) : u < n := by
  have : D.bdF n (bookF M w h st row p u) = true := hh
  simp [bookF, D.bdF, D.bd] at this
  omega
/-- what a step of the law leaves -/
structure Stepped (M : List Str) (w h : Nat) (st : Sts) (ah ah' : AH) (b l s k p u : Nat) (Hs : List D) (n : Nat) : Prop where
  bd : Bd ah'
  bag : BagAt ah' b
  held : ∃ Hs', ah'[l]? = some (.lst Hs') ∧ HeldOk Hs' ∧ Hs'.length ≤ Hs.length + 1
  side : ∃ u' rows at', Side M w h st ah' s k p u' rows at' (n + 1) ∧ (u' = u ∨ ah.length ≤ u')
  fr : ∀ i, i < ah.length → i ≠ b → i ≠ l → i ≠ s → i ≠ k → i ≠ p → i ≠ u → ah'[i]? = ah[i]?
  len : ah.length ≤ ah'.length
theorem stepped_trim {ah A : AH} {d : D} {b l s k p u n : Nat} {Hs : List D} (S : Stepped M w h st ah A b l s k p u Hs n) (lb : b < ah.length) (ll : l < ah.length) (ls : s < ah.length) (lk : k < ah.length) (lp : p < ah.length) : ∃ ah', trim ah (d, A) = (d, ah') ∧ Stepped M w h st ah ah' b l s k p u Hs n := by
  obtain ⟨ah', e, f, bd, len, alt⟩ := trim_two (d := d) S.len S.bd
  obtain ⟨u', rows, at', sd, hu⟩ := S.side
  obtain ⟨Hs', h1, h2, h3⟩ := S.held
  obtain ⟨b1, b2, b3, kp, ku, pu⟩ := sd.bk
  have hk : ah'[k]? = some (bookO M w h st (rows.getD at' []) p u') := (f k lk).trans b1
  have hu' : ah'[u']? = A[u']? := by
    rcases alt with rfl | ⟨l1, l2⟩
    · rfl
    · exact f u' (book_bd_inv (l2 _ (List.mem_of_getElem? hk)))
  refine ⟨ah', e, bd, ?_, ⟨Hs', (f l ll).trans h1, h2, h3⟩, ⟨u', rows, at', ⟨(f s ls).trans sd.sd, sd.lt, ⟨hk, (f p lp).trans b2, hu'.trans b3, kp, ku, pu⟩, sd.ok, sd.le, sd.ct⟩, hu⟩, fun i hi n1 n2 n3 n4 n5 n6 => (f i hi).trans (S.fr i hi n1 n2 n3 n4 n5 n6), len⟩
  obtain ⟨v0, v1, v2, cs, e, o⟩ := S.bag
  exact ⟨v0, v1, v2, cs, (f b lb).trans e, o⟩
end
end K88

set_option linter.all false
set_option maxRecDepth 100000
namespace K88
open PySem L2 MM
section
variable {M : List Str} {w h : Nat} {st : Sts}
theorem tells_len (hM : Nms M) (A B : List Sts) : (tells M w h A B).length ≤ A.length * 6 := by
  refine Nat.le_trans (flat_len (B := 6) _ fun k _ => tellK_len hM k _ _) ?_
  rw [List.length_range]
  exact Nat.mul_le_mul_right _ (Nat.min_le_left _ _)
theorem chain_ev {a b c : ME} {δ : DL} {ah : AH} {i j k : Int} (h1 : a δ ah = some (.int i, ah)) (h2 : b δ ah = some (.int j, ah)) (h3 : c δ ah = some (.int k, ah)) : eChain gLe gLt a b c δ ah = some (.bl (decide (i ≤ j) && decide (j < k)), ah) := by
  cases e1 : decide (i ≤ j) <;> simp [eChain, h1, h2, h3, gI, gLe, gLt, e1]
theorem par_ev {i j : Nat} {a b : ME} {δ : DL} {ah ah1 ah2 : AH} {d e : D} (h1 : a δ ah = some (d, ah1)) (h2 : b δ ah1 = some (e, ah2)) : sPar i j a b δ ah = some (.nx ((δ.set i (some d)).set j (some e)), ah2) := by
  unfold sPar
  rw [h1, Option.bind_some, h2, Option.map_some]
theorem eif_t {c : MT} {a b : ME} {δ : DL} {ah ah1 : AH} (h : c δ ah = some (true, ah1)) : eIf c a b δ ah = a δ ah1 := by
  unfold eIf
  rw [h]
  rfl
theorem eif_f {c : MT} {a b : ME} {δ : DL} {ah ah1 : AH} (h : c δ ah = some (false, ah1)) : eIf c a b δ ah = b δ ah1 := by
  unfold eIf
  rw [h]
  rfl
theorem back_no {row : List Dd} {p u : Nat} : (bookF M w h st row p u).lookup ("back" : Str) = none := lk_no (by decide +kernel) (by decide +kernel) (by decide +kernel) (by decide +kernel) (by decide +kernel)
theorem again_no {row : List Dd} {p u : Nat} : (bookF M w h st row p u).lookup ("again" : Str) = none := lk_no (by decide +kernel) (by decide +kernel) (by decide +kernel) (by decide +kernel) (by decide +kernel)
end
end K88

set_option linter.all false
set_option maxRecDepth 100000
namespace K88
open PySem L2 MM
section
variable {α : Type}
theorem take_one {l : List α} {i : Nat} {d : α} (hi : i < l.length) : l.take (i + 1) = l.take i ++ [l.getD i d] := by
  rw [List.take_succ]
  simp [hi]
theorem drop_one {l : List α} {i : Nat} {d : α} (hi : i < l.length) : l.drop i = l.getD i d :: l.drop (i + 1) := by
  rw [List.drop_eq_getElem_cons hi]
  simp [hi]
theorem rev_one {l : List α} {i : Nat} {d : α} (hi : i < l.length) : (l.drop i).reverse = (l.drop (i + 1)).reverse ++ [l.getD i d] := by
  rw [drop_one (d := d) hi, List.reverse_cons]
end
section
variable {M : List Str} {w h : Nat} {st : Sts}
theorem Side.bg {ah ah' : AH} {b s k p u at' n : Nat} {rows : List (List Dd)} (S : Side M w h st ah s k p u rows at' n) (g : Bg b ah ah') (sb : s ≠ b) (kb : k ≠ b) (pb : p ≠ b) (ub : u ≠ b) : Side M w h st ah' s k p u rows at' n := by
  obtain ⟨s1, s2, ⟨b1, b2, b3, kp, ku, pu⟩, s4, s5, s6⟩ := S
  exact ⟨(g.get sb).trans s1, s2, ⟨(g.get kb).trans b1, (g.get pb).trans b2, (g.get ub).trans b3, kp, ku, pu⟩, s4, s5, s6⟩
theorem Side.up {ah : AH} {s k p u at' n m : Nat} {rows : List (List Dd)} (S : Side M w h st ah s k p u rows at' n) (hm : n ≤ m) : Side M w h st ah s k p u rows at' m := by
  obtain ⟨s1, s2, s3, s4, s5, s6⟩ := S
  exact ⟨s1, s2, s3, s4, fun z hz => Nat.le_trans (s5 z hz) hm, by omega⟩
end
end K88

set_option linter.all false
set_option maxRecDepth 100000
namespace K88
open PySem L2 MM
section
variable {M : List Str} {w h : Nat} {st : Sts}
/-- pointers of the law, no two the same -/
structure Apart (b l s k p u : Nat) : Prop where
  bl : b ≠ l
  sb : s ≠ b
  sl : s ≠ l
  kb : k ≠ b
  kl : k ≠ l
  ks : k ≠ s
  pb : p ≠ b
  pl : p ≠ l
  ps : p ≠ s
  ub : u ≠ b
  ul : u ≠ l
  us : u ≠ s
/-- after a doing of the book: the rest of the step -/
theorem step_end (W : Wh w h) (hM : Nms M) {ah A1 A : AH} {b l s k p u u' t : Nat} {rows : List (List Dd)} {at' to n : Nat} {Hs : List D} {row row' : List Dd} {past' undone' : List (List Dd)} {o9 o12 o13 : Option D} (P : Apart b l s k p u) (le1 : ah.length = A1.length) (fr1 : ∀ i, i < ah.length → i ≠ b → i ≠ s → A1[i]? = ah[i]?)
    (hb : BagAt A1 b) (hl : A1[l]? = some (.lst Hs)) (hh : HeldOk Hs) (nH : Hs.length ≤ 1000) (hs : A1[s]? = some (.lst [.ptr k, .lst (rows.map (rowD w h)), .int (at' : Nat)]))
    (DD : Did M w h A1 A k p u u' t st row row' past' undone') (la : at' < rows.length) (lt : to < rows.length) (er : rows.getD at' [] = row) (er' : rows.getD to [] = row') (ep : past' = rows.take to) (eu : undone' = (rows.drop (to + 1)).reverse) (ok : ∀ z ∈ rows, ∀ d ∈ z, DOk M w h d) (le : ∀ z ∈ rows, z.length ≤ n + 1) (ct : rows.length ≤ n + 2) (hn : n ≤ 100) (lp : p < A1.length) :
    ∃ A' : AH, (sSeq (sIf (tOf (eBin gNe (eVar 11) (eCall f__law_otherwise (aCons (eCall f__law_stood (aCons (eVar 3) (aCons (eIx (eVar 7) (eVar 8)) aNil))) (aCons (eCall f__law_stood (aCons (eVar 3) (aCons (eIx (eVar 7) (eVar 10)) aNil))) aNil))))) (sRet (eC (.bl false))) sNil) (sSeq (sExpr (eCall f__law_changed (aCons (eVar 0) (aCons (eVar 11) (aCons (eVar 5) aNil))))) (sSeq (sSubL (eVar 4) (eC (.int 2)) (eVar 10)) (sRet (eBin gEq (eMeth [("Book", f_Book_row)] "row" (eVar 6) aNil) (eIx (eVar 7) (eVar 10))))))) (stD14 b w h M st s l k rows at' o9 to t o12 o13) A = some (.rt (.bl true), A') ∧ Stepped M w h st ah A' b l s k p u Hs n := by
  subst er er' ep eu
  obtain ⟨B, told, fr, tn, tu, un, bd⟩ := DD
  have lb := hb.lt
  have ll := (List.getElem?_eq_some_iff.mp hl).1
  have ls := (List.getElem?_eq_some_iff.mp hs).1
  have keep : ∀ i, i < A1.length → i ≠ k → i ≠ p → i ≠ u → A[i]? = A1[i]? := fun i hi a b c => fr.2 i hi (by simp [a, b, c])
  have hbA : BagAt A b := by
    obtain ⟨v0, v1, v2, cs, e, o⟩ := hb
    exact ⟨v0, v1, v2, cs, (keep b lb (Ne.symm P.kb) (Ne.symm P.pb) (Ne.symm P.ub)).trans e, o⟩
  have hlA := (keep l ll (Ne.symm P.kl) (Ne.symm P.pl) (Ne.symm P.ul)).trans hl
  have hsA := (keep s ls (Ne.symm P.ks) (Ne.symm P.ps) (Ne.symm P.us)).trans hs
  have nt := tells_len (w := w) (h := h) hM (stands w h st (rows.getD at' [])) (stands w h st (rows.getD to []))
  have na := le _ (List.mem_of_getElem? (show rows[at']? = some (rows.getD at' []) by simp [la]))
  rw [stands_len] at nt
  have hkA := B.bk
  have kA1 : k ≠ t := fun e => by
    subst e
    have := B.bk
    rw [told] at this
    cases this
  obtain ⟨A', Hs', e, h1, h2, h3, h4, h5, h6, h7, h8⟩   := step_tail W hM (n := n) (o9 := o9) (o12 := o12) (o13 := o13) bd hbA hlA hh nH hsA la lt ok (fun z hz => by have := le z hz; omega) hkA told (by omega) (by omega) P.bl (by omega) P.sb (by omega) P.sl P.kb kA1 P.kl P.ks
  have up : ∀ x, A1.length ≤ x → x ≠ b ∧ x ≠ l ∧ x ≠ s := fun x hx => ⟨by omega, by omega, by omega⟩
  have ux : u' ≠ b ∧ u' ≠ l ∧ u' ≠ s := by
    rcases un with rfl | h
    · exact ⟨P.ub, P.ul, P.us⟩
    · exact up _ h
  have pt : p ≠ t := by omega
  obtain ⟨B1, B2, B3, kp, ku, pu⟩ := B
  refine ⟨A', e, h8, h3, ⟨Hs', h4, h1, h2⟩, ⟨u', rows, to, ⟨h5, lt, ⟨(h7 k P.kb kA1 P.kl P.ks).trans B1, (h7 p P.pb pt P.pl P.ps).trans B2, (h7 u' ux.1 (Ne.symm tu) ux.2.1 ux.2.2).trans B3, kp, ku, pu⟩, ok, le, ct⟩, by rw [le1]; exact un⟩, fun i hi n1 n2 n3 n4 n5 n6 => ?_, by rw [h6, le1]; exact fr.1⟩
  exact (h7 i n1 (by omega) n2 n3).trans ((keep i (by omega) n4 n5 n6).trans (fr1 i hi n1 n3))
end
end K88

set_option linter.all false
set_option maxRecDepth 100000
namespace K88
open PySem L2 MM
section
variable {M : List Str} {w h : Nat} {st : Sts}
def stp0 (b w h : Nat) (M : List Str) (st : Sts) (s l : Nat) (x6 x7 x8 x9 x10 x11 x12 x13 : Option D) : DL := [some (.ptr b), some (.tup [.int w, .int h]), some (.lst (M.map .str)), some (lawD M w h st), some (.ptr s), some (.ptr l), x6, x7, x8, x9, x10, x11, x12, x13]
theorem ixp_ev {δ : DL} {ah : AH} {j b i : Nat} {l : List D} {d : D} (v0 : δ[j]? = some (some (.ptr b))) (hl : ah[b]? = some (.lst l)) (e : l[i]? = some d) : eIx (eVar j) (eC (.int (i : Nat))) δ ah = some (d, ah) := by
  refine bin_ev (var_ev v0) rfl ?_
  have hK : asK ah (.ptr b) = none := by simp [asK, hl]
  have hL : asL ah (.ptr b) = some l := by simp [asL, hl]
  have hi := (List.getElem?_eq_some_iff.mp e).1
  unfold gIx
  rw [hK]
  show (asL ah (.ptr b)).bind (fun l => atI l (i : Nat)) = _
  rw [hL, Option.bind_some, atI, ixN, if_pos (by omega), if_pos (by omega), Option.bind_some, Int.toNat_natCast, e]
theorem ev_step (W : Wh w h) (hM : Nms M) {ah : AH} {b l s k p u : Nat} {rows : List (List Dd)} {at' n : Nat} {Hs : List D} (hBd : Bd ah) (hb : BagAt ah b) (hl : ah[l]? = some (.lst Hs)) (hh : HeldOk Hs) (nH : Hs.length ≤ 1000) (S : Side M w h st ah s k p u rows at' n) (hn : n ≤ 100) (P : Apart b l s k p u) :
    ∃ ah', f__law_step [.ptr b, .tup [.int w, .int h], .lst (M.map .str), lawD M w h st, .ptr s, .ptr l] ah = some (.bl true, ah') ∧ Stepped M w h st ah ah' b l s k p u Hs n := by
  have lb := hb.lt
  have ll := (List.getElem?_eq_some_iff.mp hl).1
  have ls := (List.getElem?_eq_some_iff.mp S.sd).1
  have lk := (List.getElem?_eq_some_iff.mp S.bk.bk).1
  have lp := (List.getElem?_eq_some_iff.mp S.bk.ps).1
  have fin : ∀ {A : AH}, s__law_step (stp0 b w h M st s l none none none none none none none none) ah = some (.rt (.bl true), A) → Stepped M w h st ah A b l s k p u Hs n → ∃ ah', f__law_step [.ptr b, .tup [.int w, .int h], .lst (M.map .str), lawD M w h st, .ptr s, .ptr l] ah = some (.bl true, ah') ∧ Stepped M w h st ah ah' b l s k p u Hs n := fun hs h1 => by
    obtain ⟨ah', e, h2⟩ := stepped_trim (d := .bl true) h1 lb ll ls lk lp
    exact ⟨ah', (fn_rt rfl hs).trans (congrArg some e), h2⟩
  have s0 : sUnl (tgCons (tgN 6) (tgCons (tgN 7) (tgCons (tgN 8) tgNil))) (eVar 4) (stp0 b w h M st s l none none none none none none none none) ah = some (.nx (stp0 b w h M st s l (some (.ptr k)) (some (.lst (rows.map (rowD w h)))) (some (.int (at' : Nat))) none none none none none), ah) := by
    have e : asL ah (.ptr s) = some [.ptr k, .lst (rows.map (rowD w h)), .int (at' : Nat)] := by simp [asL, S.sd]
    unfold sUnl
    rw [var_ev (i := 4) (d := .ptr s) rfl, Option.bind_some]
    simp only [e, Option.bind_some]
    rfl
  obtain ⟨r, A1, t1, l1, g1⟩ := take_ev (δ := stp0 b w h M st s l (some (.ptr k)) (some (.lst (rows.map (rowD w h)))) (some (.int (at' : Nat))) none none none none none) (i := 0) (m := eC (.int 4)) hb rfl rfl (many := 4) (by decide) (by decide)
  have S1 := S.bg g1 P.sb P.kb P.pb P.ub
  have hl1 : A1[l]? = some (.lst Hs) := (g1.get (Ne.symm P.bl)).trans hl
  have bd1 := g1.bd hBd
  have e1' : A1.length = ah.length := g1.len
  have stay : Stepped M w h st ah A1 b l s k p u Hs n := ⟨bd1, g1.at', ⟨Hs, hl1, hh, by omega⟩, ⟨u, rows, at', S1.up (Nat.le_succ n), .inl rfl⟩, fun i _ n1 _ _ _ _ _ => g1.get n1, by omega⟩
  have s1 : sAsg (tgN 9) (eCall f__law_take (aCons (eVar 0) (aCons (eC (.int 4)) aNil))) (stp0 b w h M st s l (some (.ptr k)) (some (.lst (rows.map (rowD w h)))) (some (.int (at' : Nat))) none none none none none) ah = some (.nx (stp0 b w h M st s l (some (.ptr k)) (some (.lst (rows.map (rowD w h)))) (some (.int (at' : Nat))) (some (.int (r : Nat))) none none none none), A1) := asg_ev t1
  have c0 : tOf (eBin gLt (eVar 9) (eC (.int 2))) (stp0 b w h M st s l (some (.ptr k)) (some (.lst (rows.map (rowD w h)))) (some (.int (at' : Nat))) (some (.int (r : Nat))) none none none none) A1 = some (decide ((r : Int) < 2), A1) := rfl
  have hrow : ∀ d ∈ rows.getD at' [], DOk M w h d := S.ok _ (List.mem_of_getElem? (show rows[at']? = some (rows.getD at' []) by simp [S.lt]))
  have hrl : (rows.getD at' []).length ≤ n := S.le _ (List.mem_of_getElem? (show rows[at']? = some (rows.getD at' []) by simp [S.lt]))
  by_cases hr : (r : Int) < 2
  · rw [decide_eq_true hr] at c0
    have s2 : sAsg (tgN 10) (eBin gSub (eBin gAdd (eVar 8) (eBin gMul (eC (.int 2)) (eVar 9))) (eC (.int 1))) (stp0 b w h M st s l (some (.ptr k)) (some (.lst (rows.map (rowD w h)))) (some (.int (at' : Nat))) (some (.int (r : Nat))) none none none none) A1 = some (.nx (stp0 b w h M st s l (some (.ptr k)) (some (.lst (rows.map (rowD w h)))) (some (.int (at' : Nat))) (some (.int (r : Nat))) (some (.int ((at' : Int) + 2 * (r : Int) - 1))) none none none), A1) :=
      asg_ev (sub_ev (add_int (i := (at' : Nat)) rfl (mul_ev (i := 2) (j := (r : Nat)) rfl rfl (.inl (by decide)))) rfl)
    have ln7 := len_lst (m := eVar 7) (δ := stp0 b w h M st s l (some (.ptr k)) (some (.lst (rows.map (rowD w h)))) (some (.int (at' : Nat))) (some (.int (r : Nat))) (some (.int ((at' : Int) + 2 * (r : Int) - 1))) none none none) (ah := A1) (l := rows.map (rowD w h)) rfl
    rw [List.length_map] at ln7
    have c1 := tnot_ev (tof_ev (chain_ev (a := eC (.int 0)) (b := eVar 10) rfl rfl ln7))
    cases hc : (decide ((0 : Int) ≤ (at' : Int) + 2 * (r : Int) - 1) && decide ((at' : Int) + 2 * (r : Int) - 1 < rows.length)) with
    | false =>
      rw [hc] at c1
      refine fin (A := A1) ?_ stay
      unfold s__law_step
      exact (seq_nx s0).trans ((seq_nx s1).trans (seq_rt ((if_t c0).trans ((seq_nx s2).trans (seq_take c1 rfl)))))
    | true =>
      rw [hc] at c1
      simp only [Bool.and_eq_true, decide_eq_true_eq] at hc
      obtain ⟨to, hto⟩ : ∃ to : Nat, (at' : Int) + 2 * (r : Int) - 1 = (to : Nat) := ⟨((at' : Int) + 2 * (r : Int) - 1).toNat, by omega⟩
      rw [hto] at s2 c1 hc
      have lto : to < rows.length := by omega
      have c2 : tOf (eBin gEq (eVar 9) (eC (.int 0))) (stp0 b w h M st s l (some (.ptr k)) (some (.lst (rows.map (rowD w h)))) (some (.int (at' : Nat))) (some (.int (r : Nat))) (some (.int (to : Nat))) none none none) A1 = some (decide ((r : Int) = 0), A1) := rfl
      have hrt : ∀ d ∈ rows.getD to [], DOk M w h d := S.ok _ (List.mem_of_getElem? (show rows[to]? = some (rows.getD to []) by simp [lto]))
      have hrtl : (rows.getD to []).length ≤ n := S.le _ (List.mem_of_getElem? (show rows[to]? = some (rows.getD to []) by simp [lto]))
      have told : ∃ t A past' undone', eIf (tOf (eBin gEq (eVar 9) (eC (.int 0)))) (eMeth [("Book", f_Book_back)] "back" (eVar 6) aNil) (eMeth [("Book", f_Book_again)] "again" (eVar 6) aNil) (stp0 b w h M st s l (some (.ptr k)) (some (.lst (rows.map (rowD w h)))) (some (.int (at' : Nat))) (some (.int (r : Nat))) (some (.int (to : Nat))) none none none) A1 = some (.ptr t, A) ∧ Did M w h A1 A k p u u t st (rows.getD at' []) (rows.getD to []) past' undone' ∧ past' = rows.take to ∧ undone' = (rows.drop (to + 1)).reverse := by
        have B := S1.bk
        have hct := S.ct
        by_cases e0 : (r : Int) = 0
        · rw [decide_eq_true e0] at c2
          have ea : at' = to + 1 := by omega
          have lt' := S.lt
          subst ea
          rw [take_one (d := []) lto] at B
          obtain ⟨t, A, e, dd⟩ := ev_back hM W.w1 W.w6 W.h1 W.h6 hrow (fun z hz => S.ok z (by
            rcases List.mem_append.mp hz with h1 | h1
            · exact List.mem_of_mem_take h1
            · rw [List.mem_singleton.mp h1]; exact List.mem_of_getElem? (show rows[to]? = some (rows.getD to []) by simp [lto]))) (by omega) (by omega) (by rw [List.length_reverse, List.length_drop]; omega) bd1 B
          exact ⟨t, A, _, _, (eif_t c2).trans ((bmeth (var_ev rfl) B.bk back_no (nil_ev _ _)).trans e), dd, rfl, (rev_one (d := []) lt').symm⟩
        · rw [decide_eq_false e0] at c2
          have ea : to = at' + 1 := by omega
          have lt' := S.lt
          subst ea
          rw [rev_one (d := []) lto] at B
          obtain ⟨t, A, e, dd⟩ := ev_again hM W.w1 W.w6 W.h1 W.h6 hrow (fun z hz => S.ok z (by
            rcases List.mem_append.mp hz with h1 | h1
            · exact List.mem_of_mem_drop (List.mem_reverse.mp h1)
            · rw [List.mem_singleton.mp h1]; exact List.mem_of_getElem? (show rows[at' + 1]? = some (rows.getD (at' + 1) []) by simp [lto]))) (by omega) (by omega) (by rw [List.length_take]; omega) bd1 B
          exact ⟨t, A, _, _, (eif_f c2).trans ((bmeth (var_ev rfl) B.bk again_no (nil_ev _ _)).trans e), dd, (take_one (d := []) lt').symm, rfl⟩
      obtain ⟨t, A, past', undone', et, dd, ep, eu⟩ := told
      obtain ⟨A', e, hS⟩ := step_end (o9 := some (.int (r : Nat))) (o12 := none) (o13 := none) W hM P e1'.symm (fun i _ n1 _ => g1.get n1) g1.at' hl1 hh nH S1.sd dd S.lt lto rfl rfl ep eu S.ok (fun z hz => by have := S.le z hz; omega) (by have := S.ct; omega) hn (by omega)
      refine fin (A := A') ?_ hS
      unfold s__law_step
      exact (seq_nx s0).trans ((seq_nx s1).trans ((seq_nx ((if_t c0).trans ((seq_nx s2).trans ((seq_skip c1).trans (asg_ev et))))).trans e))
  · rw [decide_eq_false hr] at c0
    obtain ⟨x, A2, ex, okx, g2⟩ := ev_doing (b := b) W hM (row := rows.getD at' []) (by omega) g1.at'
    have S2 := S1.bg g2 P.sb P.kb P.pb P.ub
    have hl2 : A2[l]? = some (.lst Hs) := (g2.get (Ne.symm P.bl)).trans hl1
    have bd2 := g2.bd bd1
    have e2' : A2.length = A1.length := g2.len
    have ix8 : ∀ {x9 x10 x11 x12 x13 : Option D} {H : AH}, eIx (eVar 7) (eVar 8) (stp0 b w h M st s l (some (.ptr k)) (some (.lst (rows.map (rowD w h)))) (some (.int (at' : Nat))) x9 x10 x11 x12 x13) H = some (rowD w h (rows.getD at' []), H) := idx3 (m := eVar 7) (i := at') (var_ev rfl) (var_ev rfl) (by simp [S.lt])
    have s2 : sAsg (tgN 12) (eCall f__law_doing (aCons (eVar 0) (aCons (eVar 1) (aCons (eVar 2) (aCons (e1 gLen (eIx (eVar 7) (eVar 8))) aNil))))) (stp0 b w h M st s l (some (.ptr k)) (some (.lst (rows.map (rowD w h)))) (some (.int (at' : Nat))) (some (.int (r : Nat))) none none none none) A1 = some (.nx (stp0 b w h M st s l (some (.ptr k)) (some (.lst (rows.map (rowD w h)))) (some (.int (at' : Nat))) (some (.int (r : Nat))) none none (some (doD w h x)) none), A2) := by
      have ln := len_lst (ix8 (x9 := some (.int (r : Nat))) (x10 := none) (x11 := none) (x12 := none) (x13 := none) (H := A1))
      rw [List.length_map] at ln
      exact asg_ev ((call_ev (cons_ev (var_ev rfl) (cons_ev (var_ev rfl) (cons_ev (var_ev rfl) (cons_ev ln (nil_ev _ _)))))).trans ex)
    have lA2 : A2.length = ah.length := by omega
    have ks : k ≠ s := P.ks
    have B2 := S2.bk
    have ls2 : s < A2.length := by omega
    generalize erow : rows.getD at' [] = row at hrow hrl ex okx B2 ix8 s2
    generalize er' : rows.take (at' + 1) ++ [rowBy row x] = rows'
    have ln' : rows'.length = at' + 2 := by
      rw [← er', List.length_append, List.length_take, List.length_singleton]
      have := S.lt
      omega
    have sA : ∀ {x9 x10 x11 x12 : Option D} {H : AH}, eSl (eVar 7) oNone (oSome (eVar 13)) (stp0 b w h M st s l (some (.ptr k)) (some (.lst (rows.map (rowD w h)))) (some (.int (at' : Nat))) x9 x10 x11 x12 (some (.int ((at' + 1 : Nat) : Int)))) H = some (.lst ((rows.map (rowD w h)).take (at' + 1)), H) := sl_take (var_ev rfl) (var_ev rfl)
    have s3 : sAsg (tgN 13) (eBin gAdd (eVar 8) (eC (.int 1))) (stp0 b w h M st s l (some (.ptr k)) (some (.lst (rows.map (rowD w h)))) (some (.int (at' : Nat))) (some (.int (r : Nat))) none none (some (doD w h x)) none) A2 = some (.nx (stp0 b w h M st s l (some (.ptr k)) (some (.lst (rows.map (rowD w h)))) (some (.int (at' : Nat))) (some (.int (r : Nat))) none none (some (doD w h x)) (some (.int ((at' + 1 : Nat) : Int)))), A2) := asg_ev (add1 rfl)
    have rb : eCall f__law_row_by (aCons (eIx (eVar 7) (eVar 8)) (aCons (eVar 12) aNil)) (stp0 b w h M st s l (some (.ptr k)) (some (.lst (rows.map (rowD w h)))) (some (.int (at' : Nat))) (some (.int (r : Nat))) none none (some (doD w h x)) (some (.int ((at' + 1 : Nat) : Int)))) A2 = some (rowD w h (rowBy row x), A2) := (call_ev (cons_ev ix8 (cons_ev (var_ev rfl) (nil_ev _ _)))).trans (ev_row_by (by omega))
    have nr : eBin gAdd (eSl (eVar 7) oNone (oSome (eVar 13))) (eFrz (fLst (aCons (eCall f__law_row_by (aCons (eIx (eVar 7) (eVar 8)) (aCons (eVar 12) aNil))) aNil))) (stp0 b w h M st s l (some (.ptr k)) (some (.lst (rows.map (rowD w h)))) (some (.int (at' : Nat))) (some (.int (r : Nat))) none none (some (doD w h x)) (some (.int ((at' + 1 : Nat) : Int)))) A2 = some (.lst (rows'.map (rowD w h)), A2) := by
      refine (add_lst sA (frz_ev (lst_ev (cons_ev rb (nil_ev _ _)) (by simp))) (by have := S.ct; simp; omega)).trans ?_
      rw [← er', List.map_append, List.map_take]
      rfl
    have s4 := subLp_ev (j := 4) (i := 1) (m := eBin gAdd (eSl (eVar 7) oNone (oSome (eVar 13))) (eFrz (fLst (aCons (eCall f__law_row_by (aCons (eIx (eVar 7) (eVar 8)) (aCons (eVar 12) aNil))) aNil)))) (δ := stp0 b w h M st s l (some (.ptr k)) (some (.lst (rows.map (rowD w h)))) (some (.int (at' : Nat))) (some (.int (r : Nat))) none none (some (doD w h x)) (some (.int ((at' + 1 : Nat) : Int)))) rfl S2.sd (by simp) nr
    have sd3 : (A2.set s (.lst [.ptr k, .lst (rows'.map (rowD w h)), .int (at' : Nat)]))[s]? = some (.lst [.ptr k, .lst (rows'.map (rowD w h)), .int (at' : Nat)]) := List.getElem?_set_self ls2
    have s4 : sSubL (eVar 4) (eC (.int 1)) (eBin gAdd (eSl (eVar 7) oNone (oSome (eVar 13))) (eFrz (fLst (aCons (eCall f__law_row_by (aCons (eIx (eVar 7) (eVar 8)) (aCons (eVar 12) aNil))) aNil)))) (stp0 b w h M st s l (some (.ptr k)) (some (.lst (rows.map (rowD w h)))) (some (.int (at' : Nat))) (some (.int (r : Nat))) none none (some (doD w h x)) (some (.int ((at' + 1 : Nat) : Int)))) A2 = some (.nx (stp0 b w h M st s l (some (.ptr k)) (some (.lst (rows.map (rowD w h)))) (some (.int (at' : Nat))) (some (.int (r : Nat))) none none (some (doD w h x)) (some (.int ((at' + 1 : Nat) : Int)))), A2.set s (.lst [.ptr k, .lst (rows'.map (rowD w h)), .int (at' : Nat)])) := s4
    generalize eA3 : A2.set s (.lst [.ptr k, .lst (rows'.map (rowD w h)), .int (at' : Nat)]) = A3 at s4 sd3
    have g3 : ∀ {i}, i ≠ s → A3[i]? = A2[i]? := fun hi => by rw [← eA3]; exact List.getElem?_set_ne (Ne.symm hi)
    have l3 : A3.length = ah.length := by rw [← eA3, List.length_set]; exact lA2
    have bd3 : Bd A3 := by
      rw [← eA3]
      refine bd2.set ?_
      show (D.bd A2.length (.ptr k) && (D.bd A2.length (.lst (rows'.map (rowD w h))) && (D.bd A2.length (.int (at' : Nat)) && true))) = true
      have h1 : D.bd A2.length (.ptr k) = true := by simp [D.bd]; omega
      have h2 : D.bd A2.length (.lst (rows'.map (rowD w h))) = true := rows_bd _ _
      rw [h1, h2]
      rfl
    have s5 : sAsg (tgN 7) (eIx (eVar 4) (eC (.int 1))) (stp0 b w h M st s l (some (.ptr k)) (some (.lst (rows.map (rowD w h)))) (some (.int (at' : Nat))) (some (.int (r : Nat))) none none (some (doD w h x)) (some (.int ((at' + 1 : Nat) : Int)))) A3 = some (.nx (stp0 b w h M st s l (some (.ptr k)) (some (.lst (rows'.map (rowD w h)))) (some (.int (at' : Nat))) (some (.int (r : Nat))) none none (some (doD w h x)) (some (.int ((at' + 1 : Nat) : Int)))), A3) := asg_ev (ixp_ev (j := 4) (i := 1) rfl sd3 rfl)
    have B3 : BookAt M w h A3 k p u st row (rows.take at') (rows.drop (at' + 1)).reverse := by
      obtain ⟨b1, b2, b3, kp, ku, pu⟩ := B2
      exact ⟨(g3 P.ks).trans b1, (g3 P.ps).trans b2, (g3 P.us).trans b3, kp, ku, pu⟩
    obtain ⟨t, A, u', et, dd⟩ := ev_told_by (past := rows.take at') hM W hrow (by omega) (by have := S.ct; rw [List.length_take]; omega) bd3 B3 okx
    have s6 : sPar 11 10 (eCall f__law_told_by (aCons (eVar 6) (aCons (eVar 12) aNil))) (eBin gAdd (eVar 8) (eC (.int 1))) (stp0 b w h M st s l (some (.ptr k)) (some (.lst (rows'.map (rowD w h)))) (some (.int (at' : Nat))) (some (.int (r : Nat))) none none (some (doD w h x)) (some (.int ((at' + 1 : Nat) : Int)))) A3 = some (.nx (stp0 b w h M st s l (some (.ptr k)) (some (.lst (rows'.map (rowD w h)))) (some (.int (at' : Nat))) (some (.int (r : Nat))) (some (.int ((at' + 1 : Nat) : Int))) (some (.ptr t)) (some (doD w h x)) (some (.int ((at' + 1 : Nat) : Int)))), A) := par_ev ((call_ev (cons_ev (var_ev rfl) (cons_ev (var_ev rfl) (nil_ev _ _)))).trans et) (add1 rfl)
    have bag3 : BagAt A3 b := by
      obtain ⟨v0, v1, v2, cs, e, o⟩ := g2.at'
      exact ⟨v0, v1, v2, cs, (g3 (Ne.symm P.sb)).trans e, o⟩
    have lt0 := S.lt
    have tk : rows.take (at' + 1) = rows.take at' ++ [row] := by rw [take_one (d := []) lt0, erow]
    have lt1 : (rows.take at').length = at' := by rw [List.length_take]; omega
    have ea : rows'.getD at' [] = row := by
      rw [← er', tk]
      simp [List.getD, lt1]
    have eb : rows'.getD (at' + 1) [] = rowBy row x := by
      rw [← er', tk]
      simp [List.getD, lt1]
    have memr : ∀ z ∈ rows', z ∈ rows ∨ z = rowBy row x := fun z hz => by
      rw [← er'] at hz
      rcases List.mem_append.mp hz with h1 | h1
      · exact .inl (List.mem_of_mem_take h1)
      · exact .inr (List.mem_singleton.mp h1)
    obtain ⟨A', e, hS⟩ := step_end (o9 := some (.int (r : Nat))) (o12 := some (doD w h x)) (o13 := some (.int ((at' + 1 : Nat) : Int))) (rows := rows') (at' := at') (to := at' + 1) W hM P l3.symm (fun i _ n1 n2 => (g3 n2).trans ((g2.get n1).trans (g1.get n1))) bag3 ((g3 (Ne.symm P.sl)).trans hl2) hh nH sd3 dd (by omega) (by omega) ea eb (by rw [← tk, ← er', List.take_append_of_le_length (by rw [List.length_take]; omega), List.take_take, Nat.min_self]) (by rw [List.drop_eq_nil_of_le (by omega)]; rfl) (fun z hz => by
      rcases memr z hz with h1 | h1
      · exact S.ok z h1
      · rw [h1]; exact rowBy_ok hrow okx) (fun z hz => by
      rcases memr z hz with h1 | h1
      · have := S.le z h1; omega
      · rw [h1]; have := rowBy_len (row := row) x; omega) (by have := S.ct; omega) hn (by omega)
    refine fin (A := A') ?_ hS
    unfold s__law_step
    exact (seq_nx s0).trans ((seq_nx s1).trans ((seq_nx ((if_f c0).trans ((seq_nx s2).trans ((seq_nx s3).trans ((seq_nx s4).trans ((seq_nx s5).trans s6)))))).trans e))
end
end K88

set_option linter.all false
set_option maxRecDepth 100000
namespace K88
open PySem L2 MM
theorem idxP {m a : ME} {δ : DL} {ah ah1 ah2 : AH} {b i : Nat} {l : List D} {d : D} (hm : m δ ah = some (.ptr b, ah1)) (ha : a δ ah1 = some (.int (i : Nat), ah2)) (hl : ah2[b]? = some (.lst l)) (e : l[i]? = some d) : eIx m a δ ah = some (d, ah2) := by
  refine bin_ev hm ha ?_
  have hK : asK ah2 (.ptr b) = none := by simp [asK, hl]
  have hL : asL ah2 (.ptr b) = some l := by simp [asL, hl]
  have hi := (List.getElem?_eq_some_iff.mp e).1
  unfold gIx
  rw [hK]
  show (asL ah2 (.ptr b)).bind (fun l => atI l (i : Nat)) = _
  rw [hL, Option.bind_some, atI, ixN, if_pos (by omega), if_pos (by omega), Option.bind_some, Int.toNat_natCast, e]
theorem lenP {m : ME} {δ : DL} {ah ah1 : AH} {b : Nat} {l : List D} (hm : m δ ah = some (.ptr b, ah1)) (hl : ah1[b]? = some (.lst l)) : e1 gLen m δ ah = some (.int l.length, ah1) := by
  refine e1_ev hm ?_
  have hK : asK ah1 (.ptr b) = none := by simp [asK, hl]
  have hL : asL ah1 (.ptr b) = some l := by simp [asL, hl]
  simp [gLen, hK, hL]
section
variable {M : List Str} {w h : Nat} {st : Sts}
structure Qd where
  s : Nat
  k : Nat
  p : Nat
  u : Nat
def Disj (a b : Qd) : Prop := ∀ x, (x = a.s ∨ x = a.k ∨ x = a.p ∨ x = a.u) → x ≠ b.s ∧ x ≠ b.k ∧ x ≠ b.p ∧ x ≠ b.u
structure Q1 (M : List Str) (w h : Nat) (st : Sts) (H : AH) (n : Nat) (q : Qd) : Prop where
  sd : ∃ rows at', Side M w h st H q.s q.k q.p q.u rows at' n
  ap : Apart 0 6 q.s q.k q.p q.u
  f1 : q.s ≠ 5
  f2 : q.k ≠ 5
  f3 : q.p ≠ 5
  f4 : q.u ≠ 5
theorem Q1.lt {H : AH} {n : Nat} {q : Qd} (h1 : Q1 M w h st H n q) : q.s < H.length ∧ q.k < H.length ∧ q.p < H.length ∧ q.u < H.length := by
  obtain ⟨rows, at', S⟩ := h1.sd
  exact ⟨(List.getElem?_eq_some_iff.mp S.sd).1, (List.getElem?_eq_some_iff.mp S.bk.bk).1, (List.getElem?_eq_some_iff.mp S.bk.ps).1, (List.getElem?_eq_some_iff.mp S.bk.un).1⟩
/-- a side that is not touched -/
theorem Q1.keep {H H' : AH} {n m : Nat} {q : Qd} (h1 : Q1 M w h st H n q) (hm : n ≤ m) (e : ∀ x, (x = q.s ∨ x = q.k ∨ x = q.p ∨ x = q.u) → H'[x]? = H[x]?) : Q1 M w h st H' m q := by
  obtain ⟨⟨rows, at', S⟩, ap, f1, f2, f3, f4⟩ := h1
  obtain ⟨s1, s2, ⟨b1, b2, b3, kp, ku, pu⟩, s4, s5, s6⟩ := S
  refine ⟨⟨rows, at', ?_⟩, ap, f1, f2, f3, f4⟩
  refine Side.up ⟨(e _ (.inl rfl)).trans s1, s2, ⟨(e _ (.inr (.inl rfl))).trans b1, (e _ (.inr (.inr (.inl rfl)))).trans b2, (e _ (.inr (.inr (.inr rfl)))).trans b3, kp, ku, pu⟩, s4, s5, s6⟩ hm
structure LInv (M : List Str) (w h : Nat) (st : Sts) (H : AH) (n : Nat) (qs : List Qd) : Prop where
  bd : Bd H
  bag : BagAt H 0
  held : ∃ Hs, H[6]? = some (.lst Hs) ∧ HeldOk Hs ∧ Hs.length ≤ n
  ln : qs.length = 1 ∨ qs.length = 2
  sl : H[5]? = some (.lst (qs.map fun q => .ptr q.s))
  q1 : ∀ q ∈ qs, Q1 M w h st H n q
  dj : ∀ (i j : Nat) (a b : Qd), qs[i]? = some a → qs[j]? = some b → i ≠ j → Disj a b
theorem LInv.step {H H' : AH} {n i : Nat} {qs : List Qd} {q : Qd} {Hs : List D} (I : LInv M w h st H n qs) (hq : qs[i]? = some q) (e6 : H[6]? = some (.lst Hs)) (nH : Hs.length ≤ n) (S : Stepped M w h st H H' 0 6 q.s q.k q.p q.u Hs n) : ∃ qs', LInv M w h st H' (n + 1) qs' := by
  obtain ⟨bd, bag, -, ln, sl, q1, dj⟩ := I
  have mq : q ∈ qs := List.mem_of_getElem? hq
  have li := (List.getElem?_eq_some_iff.mp hq).1
  have l0 := bag.lt
  have l5 := (List.getElem?_eq_some_iff.mp sl).1
  have l6 := (List.getElem?_eq_some_iff.mp e6).1
  have Q := q1 q mq
  have lt := Q.lt
  obtain ⟨u', rows, at', sd, hu⟩ := S.side
  obtain ⟨Hs', h1, h2, h3⟩ := S.held
  have fr := S.fr
  have far : ∀ x, x < H.length → u' = q.u ∨ x ≠ u' := fun x hx => by
    rcases hu with rfl | h
    · exact .inl rfl
    · exact .inr (by omega)
  have ap := Q.ap
  have une : ∀ x, x < H.length → x ≠ q.u → u' ≠ x := fun x hx hn => by
    rcases hu with rfl | h
    · exact Ne.symm hn
    · omega
  have get : ∀ j, j ≠ i → (qs.set i ⟨q.s, q.k, q.p, u'⟩)[j]? = qs[j]? := fun j hj => List.getElem?_set_ne (Ne.symm hj)
  have geti : (qs.set i ⟨q.s, q.k, q.p, u'⟩)[i]? = some ⟨q.s, q.k, q.p, u'⟩ := List.getElem?_set_self li
  have old : ∀ j r, j ≠ i → qs[j]? = some r → ∀ x, (x = r.s ∨ x = r.k ∨ x = r.p ∨ x = r.u) → x < H.length ∧ x ≠ 0 ∧ x ≠ 6 ∧ x ≠ q.s ∧ x ≠ q.k ∧ x ≠ q.p ∧ x ≠ q.u := fun j r hj hr x hx => by
    have R := q1 r (List.mem_of_getElem? hr)
    have rl := R.lt
    have D := dj j i r q hr hq hj x hx
    have ra := R.ap
    rcases hx with rfl | rfl | rfl | rfl
    · exact ⟨rl.1, ra.sb, ra.sl, D⟩
    · exact ⟨rl.2.1, ra.kb, ra.kl, D⟩
    · exact ⟨rl.2.2.1, ra.pb, ra.pl, D⟩
    · exact ⟨rl.2.2.2, ra.ub, ra.ul, D⟩
  refine ⟨qs.set i ⟨q.s, q.k, q.p, u'⟩, S.bd, S.bag, ⟨Hs', h1, h2, by omega⟩, by rw [List.length_set]; exact ln, ?_, fun r hr => ?_, fun a b x y hx hy hab => ?_⟩
  · rw [fr 5 l5 (by decide) (by decide) (Ne.symm Q.f1) (Ne.symm Q.f2) (Ne.symm Q.f3) (Ne.symm Q.f4), sl]
    congr 2
    refine List.ext_getElem? fun j => ?_
    rw [List.getElem?_map, List.getElem?_map]
    by_cases hj : j = i
    · subst hj
      rw [geti, hq]
      rfl
    · rw [get j hj]
  · obtain ⟨j, hj⟩ := List.getElem?_of_mem hr
    by_cases e : j = i
    · subst e
      rw [geti] at hj
      cases hj
      exact ⟨⟨rows, at', sd⟩, ⟨ap.bl, ap.sb, ap.sl, ap.kb, ap.kl, ap.ks, ap.pb, ap.pl, ap.ps, une 0 l0 (Ne.symm ap.ub), une 6 l6 (Ne.symm ap.ul), une _ lt.1 (Ne.symm ap.us)⟩, Q.f1, Q.f2, Q.f3, une 5 l5 (Ne.symm Q.f4)⟩
    · rw [get j e] at hj
      refine (q1 r (List.mem_of_getElem? hj)).keep (Nat.le_succ n) fun x hx => ?_
      have o := old j r e hj x hx
      exact fr x o.1 o.2.1 o.2.2.1 o.2.2.2.1 o.2.2.2.2.1 o.2.2.2.2.2.1 o.2.2.2.2.2.2
  · by_cases ea : a = i
    · subst ea
      rw [geti] at hx
      cases hx
      have eb : b ≠ a := Ne.symm hab
      rw [get b eb] at hy
      have D := dj a b q y hq hy hab
      have Y := (q1 y (List.mem_of_getElem? hy)).lt
      intro z hz
      rcases hz with rfl | rfl | rfl | rfl
      · exact D _ (.inl rfl)
      · exact D _ (.inr (.inl rfl))
      · exact D _ (.inr (.inr (.inl rfl)))
      · rcases hu with rfl | hu
        · exact D _ (.inr (.inr (.inr rfl)))
        · exact ⟨by omega, by omega, by omega, by omega⟩
    · rw [get a ea] at hx
      by_cases eb : b = i
      · subst eb
        rw [geti] at hy
        cases hy
        intro z hz
        have o := old a x ea hx z hz
        exact ⟨o.2.2.2.1, o.2.2.2.2.1, o.2.2.2.2.2.1, Ne.symm (une z o.1 o.2.2.2.2.2.2)⟩
      · rw [get b eb] at hy
        exact dj a b x y hx hy hab
theorem LInv.bg {H H' : AH} {n : Nat} {qs : List Qd} (I : LInv M w h st H n qs) (g : Bg 0 H H') : LInv M w h st H' n qs := by
  obtain ⟨bd, bag, ⟨Hs, a, b, c⟩, ln, sl, q1, dj⟩ := I
  refine ⟨g.bd bd, g.at', ⟨Hs, (g.get (by decide)).trans a, b, c⟩, ln, (g.get (by decide)).trans sl, fun q hq => (q1 q hq).keep (Nat.le_refl _) fun x hx => g.get ?_, dj⟩
  have ap := (q1 q hq).ap
  rcases hx with rfl | rfl | rfl | rfl
  · exact ap.sb
  · exact ap.kb
  · exact ap.pb
  · exact ap.ub
/-- the copy -/
theorem LInv.copy {H A : AH} {n : Nat} {q : Qd} {rows : List (List Dd)} {at' : Nat} (I : LInv M w h st H n [q]) (S : Side M w h st H q.s q.k q.p q.u rows at' n) (B : BookAt M w h A H.length (H.length + 3) (H.length + 4) st (rows.getD at' []) (rows.take at') (rows.drop (at' + 1)).reverse) (fr : Fr H A []) (le : A.length = H.length + 5) (bdA : Bd A) :
    ∃ qs, LInv M w h st ((A ++ [AO.lst [.ptr H.length, .lst (rows.map (rowD w h)), .int (at' : Nat)]]).set 5 (.lst [.ptr q.s, .ptr A.length])) n qs := by
  obtain ⟨bd, bag, ⟨Hs, a1, a2, a3⟩, ln, sl, q1, dj⟩ := I
  have l0 := bag.lt
  have l5 := (List.getElem?_eq_some_iff.mp sl).1
  have l6 := (List.getElem?_eq_some_iff.mp a1).1
  have Q := q1 q (by simp)
  have lt := Q.lt
  have ap := Q.ap
  have up : ∀ {x}, x ≠ 5 → x < A.length → ((A ++ [AO.lst [.ptr H.length, .lst (rows.map (rowD w h)), .int (at' : Nat)]]).set 5 (.lst [.ptr q.s, .ptr A.length]))[x]? = A[x]? := fun h5 hx => by
    rw [List.getElem?_set_ne (Ne.symm h5), List.getElem?_append_left hx]
  have old : ∀ {x}, x ≠ 5 → x < H.length → ((A ++ [AO.lst [.ptr H.length, .lst (rows.map (rowD w h)), .int (at' : Nat)]]).set 5 (.lst [.ptr q.s, .ptr A.length]))[x]? = H[x]? := fun h5 hx => (up h5 (by omega)).trans (fr.2 _ hx (by simp))
  have new : ((A ++ [AO.lst [.ptr H.length, .lst (rows.map (rowD w h)), .int (at' : Nat)]]).set 5 (.lst [.ptr q.s, .ptr A.length]))[A.length]? = some (.lst [.ptr H.length, .lst (rows.map (rowD w h)), .int (at' : Nat)]) := by
    rw [List.getElem?_set_ne (by omega)]
    exact List.getElem?_concat_length
  refine ⟨[q, ⟨A.length, H.length, H.length + 3, H.length + 4⟩], ?_, ?_, ⟨Hs, (old (by decide) l6).trans a1, a2, a3⟩, .inr rfl, ?_, fun r hr => ?_, fun i j x y hx hy hij => ?_⟩
  · refine (bdA.push ?_).set ?_
    · show (D.bd _ (.ptr H.length) && (D.bd _ (.lst (rows.map (rowD w h))) && (D.bd _ (.int (at' : Nat)) && true))) = true
      have h1 : D.bd (A.length + 1) (.ptr H.length) = true := by simp [D.bd]; omega
      have h2 : D.bd (A.length + 1) (.lst (rows.map (rowD w h))) = true := rows_bd _ _
      first
        | (rw [h1, h2]; rfl)
        | (simp [D.bd, rows_bd]; omega)
    · simp [AO.bd, D.bds, D.bd]
      omega
  · obtain ⟨v0, v1, v2, cs, e, o⟩ := bag
    exact ⟨v0, v1, v2, cs, (old (by decide) l0).trans e, o⟩
  · rw [List.getElem?_set_self (by simp; omega)]
    rfl
  · rcases List.mem_cons.mp hr with rfl | hr
    · refine Q.keep (Nat.le_refl _) fun x hx => ?_
      rcases hx with rfl | rfl | rfl | rfl
      · exact old Q.f1 lt.1
      · exact old Q.f2 lt.2.1
      · exact old Q.f3 lt.2.2.1
      · exact old Q.f4 lt.2.2.2
    · rw [List.mem_singleton.mp hr]
      obtain ⟨b1, b2, b3, kp, ku, pu⟩ := B
      obtain ⟨s1, s2, s3, s4, s5, s6⟩ := S
      refine ⟨⟨rows, at', new, s2, ⟨(up ?_ ?_).trans b1, (up ?_ ?_).trans b2, (up ?_ ?_).trans b3, kp, ku, pu⟩, s4, s5, s6⟩, ?_, ?_, ?_, ?_, ?_⟩
      all_goals first
        | (show _ < _; (try dsimp only); omega)
        | (show _ ≠ _; (try dsimp only); omega)
        | (constructor <;> (show _ ≠ _; (try dsimp only); omega))
  · have dd : Disj q ⟨A.length, H.length, H.length + 3, H.length + 4⟩ := fun z hz => by
      rcases hz with rfl | rfl | rfl | rfl <;> refine ⟨?_, ?_, ?_, ?_⟩ <;> show _ ≠ _ <;> (try dsimp only) <;> omega
    have dd2 : Disj ⟨A.length, H.length, H.length + 3, H.length + 4⟩ q := fun z hz => by
      rcases hz with rfl | rfl | rfl | rfl <;> refine ⟨?_, ?_, ?_, ?_⟩ <;> show _ ≠ _ <;> (try dsimp only) <;> omega
    match i, j, hx, hy with
    | 0, 0, _, _ => exact absurd rfl hij
    | 0, 1, hx, hy => cases hx; cases hy; exact dd
    | 1, 0, hx, hy => cases hx; cases hy; exact dd2
    | 1, 1, _, _ => exact absurd rfl hij
    | (i + 2), _, hx, _ => cases hx
    | 0, (j + 2), _, hy => cases hy
    | 1, (j + 2), _, hy => cases hy
end
end K88

set_option linter.all false
set_option maxRecDepth 100000
namespace K88
open PySem L2 MM
theorem nil_t' {t : MT} {a : MS} {δ : DL} {ah ah1 : AH} (h : t δ ah = some (false, ah1)) : sIf t a sNil δ ah = some (.nx δ, ah1) := (if_f h).trans rfl
section
variable {M : List Str} {w h : Nat} {st : Sts}
def lawS (ns : List Int) (w h : Nat) (M : List Str) (st : Sts) (x7 : Option D) : DL := [some (.scr (ns.map .int)), some (.ptr 0), some (.tup [.int w, .int h]), some (.lst (M.map .str)), some (lawD M w h st), some (.ptr 5), some (.ptr 6), x7, none, none, none]
theorem ev_turn (W : Wh w h) (hM : Nms M) {ns : List Int} {x7 : Option D} {H : AH} {n : Nat} {qs : List Qd} (hn : n ≤ 100) (I : LInv M w h st H n qs) :
    ∃ H' qs', sIf (tNotM (tOf (eCall f__law_step (aCons (eVar 1) (aCons (eVar 2) (aCons (eVar 3) (aCons (eVar 4) (aCons (eIx (eVar 5) (eCall f__law_take (aCons (eVar 1) (aCons (e1 gLen (eVar 5)) aNil)))) (aCons (eVar 6) aNil))))))))) (sRet (eC (.bl false))) sNil (lawS ns w h M st x7) H = some (.nx (lawS ns w h M st x7), H') ∧ LInv M w h st H' (n + 1) qs' := by
  have ln : e1 gLen (eVar 5) (lawS ns w h M st x7) H = some (.int (qs.length : Nat), H) := by
    have := lenP (m := eVar 5) (δ := lawS ns w h M st x7) (var_ev rfl) I.sl
    rwa [List.length_map] at this
  obtain ⟨r, H1, t1, l1, g1⟩ := take_ev (δ := lawS ns w h M st x7) (i := 1) (m := e1 gLen (eVar 5)) I.bag rfl ln (by rcases I.ln with h | h <;> rw [h] <;> decide) (by rcases I.ln with h | h <;> rw [h] <;> decide)
  have I1 := I.bg g1
  have lr : r < qs.length := by omega
  have hq : qs[r]? = some qs[r] := List.getElem?_eq_getElem lr
  have Q := I1.q1 qs[r] (List.getElem_mem lr)
  obtain ⟨Hs, e6, hh, nH⟩ := I1.held
  obtain ⟨rows, at', S⟩ := Q.sd
  obtain ⟨H', e, hS⟩ := ev_step W hM I1.bd I1.bag e6 hh (by omega) S hn Q.ap
  obtain ⟨qs', I'⟩ := I1.step hq e6 nH hS
  have ix : eIx (eVar 5) (eCall f__law_take (aCons (eVar 1) (aCons (e1 gLen (eVar 5)) aNil))) (lawS ns w h M st x7) H = some (.ptr qs[r].s, H1) := idxP (var_ev rfl) t1 I1.sl (by rw [List.getElem?_map, hq]; rfl)
  refine ⟨H', qs', nil_t' (tnot_ev (b := true) (tof_ev ((call_ev (cons_ev (var_ev rfl) (cons_ev (var_ev rfl) (cons_ev (var_ev rfl) (cons_ev (var_ev rfl) (cons_ev ix (cons_ev (var_ev rfl) (nil_ev _ _)))))))).trans e))), I'⟩
theorem copied_no {row : List Dd} {p u : Nat} : (bookF M w h st row p u).lookup ("copied" : Str) = none := lk_no (by decide +kernel) (by decide +kernel) (by decide +kernel) (by decide +kernel) (by decide +kernel)
theorem ev_round (W : Wh w h) (hM : Nms M) {ns : List Int} {x7 : Option D} {H : AH} {n : Nat} {qs : List Qd} (hn : n ≤ 100) (I : LInv M w h st H n qs) :
    ∃ H' qs', sSeq (sIf (tAndM (tOf (eBin gEq (e1 gLen (eVar 5)) (eC (.int 1)))) (tOf (eBin gEq (eCall f__law_take (aCons (eVar 1) (aCons (eC (.int 6)) aNil))) (eC (.int 0))))) (sExpr (eMut gAppend (eVar 5) (aCons (eOwn (fLst (aCons (eMeth [("Book", f_Book_copied)] "copied" (eIx (eIx (eVar 5) (eC (.int 0))) (eC (.int 0))) aNil) (aCons (eFrz (fComp (iAny (eIx (eIx (eVar 5) (eC (.int 0))) (eC (.int 1)))) (tgN 10) tYesM (eFrz (f1 gList (eVar 10))) [10])) (aCons (eIx (eIx (eVar 5) (eC (.int 0))) (eC (.int 2))) aNil))))) aNil))) sNil) (sIf (tNotM (tOf (eCall f__law_step (aCons (eVar 1) (aCons (eVar 2) (aCons (eVar 3) (aCons (eVar 4) (aCons (eIx (eVar 5) (eCall f__law_take (aCons (eVar 1) (aCons (e1 gLen (eVar 5)) aNil)))) (aCons (eVar 6) aNil))))))))) (sRet (eC (.bl false))) sNil) (lawS ns w h M st x7) H = some (.nx (lawS ns w h M st x7), H') ∧ LInv M w h st H' (n + 1) qs' := by
  suffices hA : ∃ H1 qs1, sIf (tAndM (tOf (eBin gEq (e1 gLen (eVar 5)) (eC (.int 1)))) (tOf (eBin gEq (eCall f__law_take (aCons (eVar 1) (aCons (eC (.int 6)) aNil))) (eC (.int 0))))) (sExpr (eMut gAppend (eVar 5) (aCons (eOwn (fLst (aCons (eMeth [("Book", f_Book_copied)] "copied" (eIx (eIx (eVar 5) (eC (.int 0))) (eC (.int 0))) aNil) (aCons (eFrz (fComp (iAny (eIx (eIx (eVar 5) (eC (.int 0))) (eC (.int 1)))) (tgN 10) tYesM (eFrz (f1 gList (eVar 10))) [10])) (aCons (eIx (eIx (eVar 5) (eC (.int 0))) (eC (.int 2))) aNil))))) aNil))) sNil (lawS ns w h M st x7) H = some (.nx (lawS ns w h M st x7), H1) ∧ LInv M w h st H1 n qs1 by
    obtain ⟨H1, qs1, e1, I1⟩ := hA
    obtain ⟨H', qs', e2, I2⟩ := ev_turn W hM (ns := ns) (x7 := x7) hn I1
    exact ⟨H', qs', (seq_nx e1).trans e2, I2⟩
  have ln : e1 gLen (eVar 5) (lawS ns w h M st x7) H = some (.int (qs.length : Nat), H) := by
    have := lenP (m := eVar 5) (δ := lawS ns w h M st x7) (var_ev rfl) I.sl
    rwa [List.length_map] at this
  have c0 : tOf (eBin gEq (e1 gLen (eVar 5)) (eC (.int 1))) (lawS ns w h M st x7) H = some (decide ((qs.length : Int) = 1), H) := tof_ev (bin_ev ln rfl rfl)
  by_cases l1 : qs.length = 1
  case neg =>
    rw [decide_eq_false (by omega)] at c0
    exact ⟨H, qs, nil_t (tand_f c0), I⟩
  rw [decide_eq_true (by omega)] at c0
  obtain ⟨r, H1, t1, lr, g1⟩ := take_ev (δ := lawS ns w h M st x7) (i := 1) (m := eC (.int 6)) I.bag rfl rfl (many := 6) (by decide) (by decide)
  have I1 := I.bg g1
  have c1 : tOf (eBin gEq (eCall f__law_take (aCons (eVar 1) (aCons (eC (.int 6)) aNil))) (eC (.int 0))) (lawS ns w h M st x7) H = some (decide ((r : Int) = 0), H1) := tof_ev (bin_ev t1 rfl rfl)
  by_cases r0 : (r : Int) = 0
  case neg =>
    rw [decide_eq_false r0] at c1
    exact ⟨H1, qs, nil_t' ((tand_t c0).trans c1), I1⟩
  rw [decide_eq_true r0] at c1
  obtain ⟨q, rfl⟩ : ∃ q, qs = [q] := List.length_eq_one_iff.mp l1
  have Q := I1.q1 q (by simp)
  obtain ⟨rows, at', S⟩ := Q.sd
  obtain ⟨A, ec, BA, fr, le, bdA⟩ := ev_copied I1.bd S.bk
  have l5 := (List.getElem?_eq_some_iff.mp I1.sl).1
  have lt := Q.lt
  have s5 : I1.sl = I1.sl := rfl
  have sl := I1.sl
  have slA : A[5]? = some (.lst ([q].map fun q => D.ptr q.s)) := (fr.2 5 l5 (by simp)).trans sl
  have sdA : A[q.s]? = some (.lst [.ptr q.k, .lst (rows.map (rowD w h)), .int (at' : Nat)]) := (fr.2 _ lt.1 (by simp)).trans S.sd
  have a0 : ∀ {δ : DL} {H : AH} {d : D} {i : Nat}, δ[5]? = some (some (.ptr 5)) → H[5]? = some (.lst ([q].map fun q => D.ptr q.s)) → H[q.s]? = some (.lst [.ptr q.k, .lst (rows.map (rowD w h)), .int (at' : Nat)]) → [D.ptr q.k, .lst (rows.map (rowD w h)), .int (at' : Nat)][i]? = some d → eIx (eIx (eVar 5) (eC (.int 0))) (eC (.int (i : Nat))) δ H = some (d, H) := fun v h5 hs e => idxP (idxP (i := 0) (var_ev v) rfl h5 rfl) rfl hs e
  have m1 : eMeth [("Book", f_Book_copied)] "copied" (eIx (eIx (eVar 5) (eC (.int 0))) (eC (.int 0))) aNil (lawS ns w h M st x7) H1 = some (.ptr H1.length, A) := (bmeth (a0 (i := 0) rfl sl S.sd rfl) S.bk.bk copied_no (nil_ev _ _)).trans ec
  have m2 : eFrz (fComp (iAny (eIx (eIx (eVar 5) (eC (.int 0))) (eC (.int 1)))) (tgN 10) tYesM (eFrz (f1 gList (eVar 10))) [10]) (lawS ns w h M st x7) A = some (.lst (rows.map (rowD w h)), A) := by
    refine frz_ev ((comp_ev (iAny_lst (a0 (i := 1) rfl slA sdA rfl)) (by have := S.ct; simp; omega)).trans ?_)
    exact compGo_map fun x _ => ⟨_, rfl, rfl, frz_ev (f1_ev (x := rowD w h x) rfl rfl)⟩
  have m3 : eIx (eIx (eVar 5) (eC (.int 0))) (eC (.int 2)) (lawS ns w h M st x7) A = some (.int (at' : Nat), A) := a0 (i := 2) rfl slA sdA rfl
  have m4 := own_ev (m := fLst _) (lst_ev (cons_ev m1 (cons_ev m2 (cons_ev m3 (nil_ev _ _)))) (by simp))
  have sl4 : (A ++ [AO.lst [.ptr H1.length, .lst (rows.map (rowD w h)), .int (at' : Nat)]])[5]? = some (.lst ([q].map fun q => D.ptr q.s)) := by
    rw [List.getElem?_append_left (by omega)]
    exact slA
  have m5 := exp_ev (mut_ev (g := gAppend) (mo := eVar 5) (δ := lawS ns w h M st x7) (ah := H1) (ah1 := H1) (n := 5) rfl sl (cons_ev m4 (nil_ev _ _)) sl4 (d := .non) (l' := [.ptr q.s, .ptr A.length]) rfl)
  obtain ⟨qs', I'⟩ := I1.copy S BA fr le bdA
  exact ⟨_, qs', (if_t ((tand_t c0).trans c1)).trans m5, I'⟩
end
end K88

set_option Elab.async false
set_option linter.all false
set_option maxRecDepth 100000
set_option maxHeartbeats 0
namespace K88
open PySem L2 MM
/-! ### 6. the facts, for the head -/
def fa : List He.Fa := [.free "abs", .free "all", .free "bool", .free "dict", .free "enumerate", .free "int", .free "isinstance", .free "len", .free "list", .free "min", .free "range", .free "sorted", .free "str", .free "tuple", .free "zip", .str "FLAT" ".", .glo "HAND_TURNINGS", .str "LETTERS" "abcdefghijklmnopqrstuvwxyz", .int "MOST_DEEDS" 200, .int "MOST_LETTERS" 8, .int "MOST_SIDE" 6, .int "MOST_STAMPS" 6, .int "QUARTERS" 4, .glo "TURNINGS", .str "UP" "o", .glo "Book", .cls "Book", .glo "Stamps", .cls "Stamps", .mkr "Book", .mkr "Stamps", .noat "Book" "begun", .noat "Book" "deeds", .noat "Stamps" "held", .noat "Book" "past", .noat "Book" "stood", .noat "Book" "undone_rows", .meth "Book" "again", .meth "Book" "back", .meth "Book" "become", .meth "Book" "changed", .meth "Book" "copied", .meth "Book" "do", .meth "Book" "length", .meth "Book" "need_room", .meth "Book" "need_there", .meth "Book" "put", .meth "Book" "put_row", .meth "Book" "row", .meth "Book" "slip", .meth "Book" "stood_by", .meth "Book" "take", .meth "Stamps" "box", .meth "Stamps" "done", .meth "Stamps" "face_behind", .meth "Stamps" "faces", .meth "Stamps" "names", .meth "Stamps" "need_deed", .glo "_law_bag", .glo "_law_take", .glo "_law_box", .glo "_law_names", .glo "_law_face", .glo "_law_turnings", .glo "_law_spun", .glo "_law_over", .glo "_law_faces", .glo "is_name", .glo "is_face_row", .glo "is_face", .glo "box_of", .glo "are_faces", .glo "good_or_wrong", .glo "is_hand_turning", .glo "is_deed", .glo "names_in", .glo "quarters", .glo "has_turning", .glo "mirrored", .glo "laid_sign", .glo "laid_two", .glo "exchanges", .glo "quarter_turned", .glo "turned", .glo "done_at", .glo "standings_behind", .glo "otherwise", .glo "_law_deed", .glo "_law_doing", .glo "_law_row_by", .glo "is_whole", .glo "is_from_none", .glo "_law_told_by", .glo "_law_done", .glo "_law_stood", .glo "_law_otherwise", .glo "_law_changed", .glo "_law_step", .glo "law"]
def d__law_bag : He.DefD := ⟨("_law_bag", none), "_law_bag", "_law_bag", defArgs st__law_bag, defBody st__law_bag, defScope st__law_bag, [], []⟩
def d__law_take : He.DefD := ⟨("_law_take", none), "_law_take", "_law_take", defArgs st__law_take, defBody st__law_take, defScope st__law_take, [], []⟩
def d__law_box : He.DefD := ⟨("_law_box", none), "_law_box", "_law_box", defArgs st__law_box, defBody st__law_box, defScope st__law_box, [], []⟩
def d__law_names : He.DefD := ⟨("_law_names", none), "_law_names", "_law_names", defArgs st__law_names, defBody st__law_names, defScope st__law_names, [], []⟩
def d__law_face : He.DefD := ⟨("_law_face", none), "_law_face", "_law_face", defArgs st__law_face, defBody st__law_face, defScope st__law_face, [], []⟩
def d__law_turnings : He.DefD := ⟨("_law_turnings", none), "_law_turnings", "_law_turnings", defArgs st__law_turnings, defBody st__law_turnings, defScope st__law_turnings, [], []⟩
def d__law_spun : He.DefD := ⟨("_law_spun", none), "_law_spun", "_law_spun", defArgs st__law_spun, defBody st__law_spun, defScope st__law_spun, [], []⟩
def d__law_over : He.DefD := ⟨("_law_over", none), "_law_over", "_law_over", defArgs st__law_over, defBody st__law_over, defScope st__law_over, [], []⟩
def d__law_faces : He.DefD := ⟨("_law_faces", none), "_law_faces", "_law_faces", defArgs st__law_faces, defBody st__law_faces, defScope st__law_faces, [], []⟩
def d_is_name : He.DefD := ⟨("is_name", none), "is_name", "is_name", defArgs st_is_name, defBody st_is_name, defScope st_is_name, [], []⟩
def d_is_face_row : He.DefD := ⟨("is_face_row", none), "is_face_row", "is_face_row", defArgs st_is_face_row, defBody st_is_face_row, defScope st_is_face_row, [], []⟩
def d_is_face : He.DefD := ⟨("is_face", none), "is_face", "is_face", defArgs st_is_face, defBody st_is_face, defScope st_is_face, [], []⟩
def d_box_of : He.DefD := ⟨("box_of", none), "box_of", "box_of", defArgs st_box_of, defBody st_box_of, defScope st_box_of, [], []⟩
def d_are_faces : He.DefD := ⟨("are_faces", none), "are_faces", "are_faces", defArgs st_are_faces, defBody st_are_faces, defScope st_are_faces, [], []⟩
def d_Stamps___init__ : He.DefD := ⟨("Stamps", some "__init__"), "__init__", "Stamps.__init__", defArgs st_Stamps___init__, defBody st_Stamps___init__, defScope st_Stamps___init__, [], []⟩
def d_good_or_wrong : He.DefD := ⟨("good_or_wrong", none), "good_or_wrong", "good_or_wrong", defArgs st_good_or_wrong, defBody st_good_or_wrong, defScope st_good_or_wrong, [], []⟩
def d_Book___init__ : He.DefD := ⟨("Book", some "__init__"), "__init__", "Book.__init__", defArgs st_Book___init__, defBody st_Book___init__, defScope st_Book___init__, [], []⟩
def d_Book_copied : He.DefD := ⟨("Book", some "copied"), "copied", "Book.copied", defArgs st_Book_copied, defBody st_Book_copied, defScope st_Book_copied, [], []⟩
def d_Book_length : He.DefD := ⟨("Book", some "length"), "length", "Book.length", defArgs st_Book_length, defBody st_Book_length, defScope st_Book_length, [], []⟩
def d_is_hand_turning : He.DefD := ⟨("is_hand_turning", none), "is_hand_turning", "is_hand_turning", defArgs st_is_hand_turning, defBody st_is_hand_turning, defScope st_is_hand_turning, [], []⟩
def d_is_deed : He.DefD := ⟨("is_deed", none), "is_deed", "is_deed", defArgs st_is_deed, defBody st_is_deed, defScope st_is_deed, [], []⟩
def d_names_in : He.DefD := ⟨("names_in", none), "names_in", "names_in", defArgs st_names_in, defBody st_names_in, defScope st_names_in, [], []⟩
def d_Stamps_names : He.DefD := ⟨("Stamps", some "names"), "names", "Stamps.names", defArgs st_Stamps_names, defBody st_Stamps_names, defScope st_Stamps_names, [], []⟩
def d_Stamps_box : He.DefD := ⟨("Stamps", some "box"), "box", "Stamps.box", defArgs st_Stamps_box, defBody st_Stamps_box, defScope st_Stamps_box, [], []⟩
def d_quarters : He.DefD := ⟨("quarters", none), "quarters", "quarters", defArgs st_quarters, defBody st_quarters, defScope st_quarters, [], []⟩
def d_has_turning : He.DefD := ⟨("has_turning", none), "has_turning", "has_turning", defArgs st_has_turning, defBody st_has_turning, defScope st_has_turning, [], []⟩
def d_Stamps_need_deed : He.DefD := ⟨("Stamps", some "need_deed"), "need_deed", "Stamps.need_deed", defArgs st_Stamps_need_deed, defBody st_Stamps_need_deed, defScope st_Stamps_need_deed, [], []⟩
def d_mirrored : He.DefD := ⟨("mirrored", none), "mirrored", "mirrored", defArgs st_mirrored, defBody st_mirrored, defScope st_mirrored, [], []⟩
def d_laid_sign : He.DefD := ⟨("laid_sign", none), "laid_sign", "laid_sign", defArgs st_laid_sign, defBody st_laid_sign, defScope st_laid_sign, [], []⟩
def d_laid_two : He.DefD := ⟨("laid_two", none), "laid_two", "laid_two", defArgs st_laid_two, defBody st_laid_two, defScope st_laid_two, [], []⟩
def d_exchanges : He.DefD := ⟨("exchanges", none), "exchanges", "exchanges", defArgs st_exchanges, defBody st_exchanges, defScope st_exchanges, [], []⟩
def d_quarter_turned : He.DefD := ⟨("quarter_turned", none), "quarter_turned", "quarter_turned", defArgs st_quarter_turned, defBody st_quarter_turned, defScope st_quarter_turned, [], []⟩
def d_turned : He.DefD := ⟨("turned", none), "turned", "turned", defArgs st_turned, defBody st_turned, defScope st_turned, [], []⟩
def d_Stamps_face_behind : He.DefD := ⟨("Stamps", some "face_behind"), "face_behind", "Stamps.face_behind", defArgs st_Stamps_face_behind, defBody st_Stamps_face_behind, defScope st_Stamps_face_behind, [], []⟩
def d_Stamps_done : He.DefD := ⟨("Stamps", some "done"), "done", "Stamps.done", defArgs st_Stamps_done, defBody st_Stamps_done, defScope st_Stamps_done, [], []⟩
def d_done_at : He.DefD := ⟨("done_at", none), "done_at", "done_at", defArgs st_done_at, defBody st_done_at, defScope st_done_at, [], []⟩
def d_standings_behind : He.DefD := ⟨("standings_behind", none), "standings_behind", "standings_behind", defArgs st_standings_behind, defBody st_standings_behind, defScope st_standings_behind, [], []⟩
def d_Book_stood_by : He.DefD := ⟨("Book", some "stood_by"), "stood_by", "Book.stood_by", defArgs st_Book_stood_by, defBody st_Book_stood_by, defScope st_Book_stood_by, [], []⟩
def d_Stamps_faces : He.DefD := ⟨("Stamps", some "faces"), "faces", "Stamps.faces", defArgs st_Stamps_faces, defBody st_Stamps_faces, defScope st_Stamps_faces, [], []⟩
def d_otherwise : He.DefD := ⟨("otherwise", none), "otherwise", "otherwise", defArgs st_otherwise, defBody st_otherwise, defScope st_otherwise, [], []⟩
def d_Book_become : He.DefD := ⟨("Book", some "become"), "become", "Book.become", defArgs st_Book_become, defBody st_Book_become, defScope st_Book_become, [], []⟩
def d_Book_back : He.DefD := ⟨("Book", some "back"), "back", "Book.back", defArgs st_Book_back, defBody st_Book_back, defScope st_Book_back, [], []⟩
def d_Book_again : He.DefD := ⟨("Book", some "again"), "again", "Book.again", defArgs st_Book_again, defBody st_Book_again, defScope st_Book_again, [], []⟩
def d__law_deed : He.DefD := ⟨("_law_deed", none), "_law_deed", "_law_deed", defArgs st__law_deed, defBody st__law_deed, defScope st__law_deed, [], []⟩
def d__law_doing : He.DefD := ⟨("_law_doing", none), "_law_doing", "_law_doing", defArgs st__law_doing, defBody st__law_doing, defScope st__law_doing, [], []⟩
def d__law_row_by : He.DefD := ⟨("_law_row_by", none), "_law_row_by", "_law_row_by", defArgs st__law_row_by, defBody st__law_row_by, defScope st__law_row_by, [], []⟩
def d_Book_need_room : He.DefD := ⟨("Book", some "need_room"), "need_room", "Book.need_room", defArgs st_Book_need_room, defBody st_Book_need_room, defScope st_Book_need_room, [], []⟩
def d_Book_changed : He.DefD := ⟨("Book", some "changed"), "changed", "Book.changed", defArgs st_Book_changed, defBody st_Book_changed, defScope st_Book_changed, [], []⟩
def d_Book_do : He.DefD := ⟨("Book", some "do"), "do", "Book.do", defArgs st_Book_do, defBody st_Book_do, defScope st_Book_do, [], []⟩
def d_is_whole : He.DefD := ⟨("is_whole", none), "is_whole", "is_whole", defArgs st_is_whole, defBody st_is_whole, defScope st_is_whole, [], []⟩
def d_is_from_none : He.DefD := ⟨("is_from_none", none), "is_from_none", "is_from_none", defArgs st_is_from_none, defBody st_is_from_none, defScope st_is_from_none, [], []⟩
def d_Book_need_there : He.DefD := ⟨("Book", some "need_there"), "need_there", "Book.need_there", defArgs st_Book_need_there, defBody st_Book_need_there, defScope st_Book_need_there, [], []⟩
def d_Book_put_row : He.DefD := ⟨("Book", some "put_row"), "put_row", "Book.put_row", defArgs st_Book_put_row, defBody st_Book_put_row, defScope st_Book_put_row, [], []⟩
def d_Book_put : He.DefD := ⟨("Book", some "put"), "put", "Book.put", defArgs st_Book_put, defBody st_Book_put, defScope st_Book_put, [], []⟩
def d_Book_slip : He.DefD := ⟨("Book", some "slip"), "slip", "Book.slip", defArgs st_Book_slip, defBody st_Book_slip, defScope st_Book_slip, [], []⟩
def d_Book_take : He.DefD := ⟨("Book", some "take"), "take", "Book.take", defArgs st_Book_take, defBody st_Book_take, defScope st_Book_take, [], []⟩
def d__law_told_by : He.DefD := ⟨("_law_told_by", none), "_law_told_by", "_law_told_by", defArgs st__law_told_by, defBody st__law_told_by, defScope st__law_told_by, [], []⟩
def d__law_done : He.DefD := ⟨("_law_done", none), "_law_done", "_law_done", defArgs st__law_done, defBody st__law_done, defScope st__law_done, [], []⟩
def d__law_stood : He.DefD := ⟨("_law_stood", none), "_law_stood", "_law_stood", defArgs st__law_stood, defBody st__law_stood, defScope st__law_stood, [], []⟩
def d__law_otherwise : He.DefD := ⟨("_law_otherwise", none), "_law_otherwise", "_law_otherwise", defArgs st__law_otherwise, defBody st__law_otherwise, defScope st__law_otherwise, [], []⟩
def d__law_changed : He.DefD := ⟨("_law_changed", none), "_law_changed", "_law_changed", defArgs st__law_changed, defBody st__law_changed, defScope st__law_changed, [], []⟩
def d_Book_row : He.DefD := ⟨("Book", some "row"), "row", "Book.row", defArgs st_Book_row, defBody st_Book_row, defScope st_Book_row, [], []⟩
def d__law_step : He.DefD := ⟨("_law_step", none), "_law_step", "_law_step", defArgs st__law_step, defBody st__law_step, defScope st__law_step, [], []⟩
def d_law : He.DefD := ⟨("law", none), "law", "law", defArgs st_law, defBody st_law, defScope st_law, [], []⟩
def fn : List He.DefD := [d__law_bag, d__law_take, d__law_box, d__law_names, d__law_face, d__law_turnings, d__law_spun, d__law_over, d__law_faces, d_is_name, d_is_face_row, d_is_face, d_box_of, d_are_faces, d_Stamps___init__, d_good_or_wrong, d_Book___init__, d_Book_copied, d_Book_length, d_is_hand_turning, d_is_deed, d_names_in, d_Stamps_names, d_Stamps_box, d_quarters, d_has_turning, d_Stamps_need_deed, d_mirrored, d_laid_sign, d_laid_two, d_exchanges, d_quarter_turned, d_turned, d_Stamps_face_behind, d_Stamps_done, d_done_at, d_standings_behind, d_Book_stood_by, d_Stamps_faces, d_otherwise, d_Book_become, d_Book_back, d_Book_again, d__law_deed, d__law_doing, d__law_row_by, d_Book_need_room, d_Book_changed, d_Book_do, d_is_whole, d_is_from_none, d_Book_need_there, d_Book_put_row, d_Book_put, d_Book_slip, d_Book_take, d__law_told_by, d__law_done, d__law_stood, d__law_otherwise, d__law_changed, d_Book_row, d__law_step, d_law]
def clT (K : PySem.W.Frag) : Str → Option Addr := fun c => if c = "Book" then some (He.ga K "Book") else if c = "Stamps" then some (He.ga K "Stamps") else none
def xtra (K : PySem.W.Frag) : Bool := tupC K "HAND_TURNINGS" l_HAND_TURNINGS && tupC K "TURNINGS" l_TURNINGS && insC K "Stamps" && true
theorem tx_of {K : PySem.W.Frag} {h : Heap} {mg : Str → Option Value} (X : K.In h) (G : h.Ns mainGlobals mg) (c : He.SaysD fa fn K) (x : xtra K = true) : Tx K mg (clT K) := by
  unfold xtra at x
  simp only [Bool.and_eq_true] at x
  obtain ⟨⟨⟨x_HAND_TURNINGS, x_TURNINGS⟩, y_Stamps⟩, _⟩ := x
  exact {
    b_abs := He.free_ok X G (c.fact 0 (f := .free "abs") rfl)
    b_all := He.free_ok X G (c.fact 1 (f := .free "all") rfl)
    b_bool := He.free_ok X G (c.fact 2 (f := .free "bool") rfl)
    b_dict := He.free_ok X G (c.fact 3 (f := .free "dict") rfl)
    b_enumerate := He.free_ok X G (c.fact 4 (f := .free "enumerate") rfl)
    b_int := He.free_ok X G (c.fact 5 (f := .free "int") rfl)
    b_isinstance := He.free_ok X G (c.fact 6 (f := .free "isinstance") rfl)
    b_len := He.free_ok X G (c.fact 7 (f := .free "len") rfl)
    b_list := He.free_ok X G (c.fact 8 (f := .free "list") rfl)
    b_min := He.free_ok X G (c.fact 9 (f := .free "min") rfl)
    b_range := He.free_ok X G (c.fact 10 (f := .free "range") rfl)
    b_sorted := He.free_ok X G (c.fact 11 (f := .free "sorted") rfl)
    b_str := He.free_ok X G (c.fact 12 (f := .free "str") rfl)
    b_tuple := He.free_ok X G (c.fact 13 (f := .free "tuple") rfl)
    b_zip := He.free_ok X G (c.fact 14 (f := .free "zip") rfl)
    g_FLAT := gc_str (He.str_ok X G (c.fact 15 (f := .str "FLAT" ".") rfl))
    g_HAND_TURNINGS := (tc_of (He.glo_ok X G (c.fact 16 (f := .glo "HAND_TURNINGS") rfl)) x_HAND_TURNINGS).gc
    t_HAND_TURNINGS := tc_of (He.glo_ok X G (c.fact 16 (f := .glo "HAND_TURNINGS") rfl)) x_HAND_TURNINGS
    g_LETTERS := gc_str (He.str_ok X G (c.fact 17 (f := .str "LETTERS" "abcdefghijklmnopqrstuvwxyz") rfl))
    g_MOST_DEEDS := gc_int (He.int_ok X G (c.fact 18 (f := .int "MOST_DEEDS" 200) rfl))
    g_MOST_LETTERS := gc_int (He.int_ok X G (c.fact 19 (f := .int "MOST_LETTERS" 8) rfl))
    g_MOST_SIDE := gc_int (He.int_ok X G (c.fact 20 (f := .int "MOST_SIDE" 6) rfl))
    g_MOST_STAMPS := gc_int (He.int_ok X G (c.fact 21 (f := .int "MOST_STAMPS" 6) rfl))
    g_QUARTERS := gc_int (He.int_ok X G (c.fact 22 (f := .int "QUARTERS" 4) rfl))
    g_TURNINGS := (tc_of (He.glo_ok X G (c.fact 23 (f := .glo "TURNINGS") rfl)) x_TURNINGS).gc
    t_TURNINGS := tc_of (He.glo_ok X G (c.fact 23 (f := .glo "TURNINGS") rfl)) x_TURNINGS
    g_UP := gc_str (He.str_ok X G (c.fact 24 (f := .str "UP" "o") rfl))
    C_Book := He.glo_ok X G (c.fact 25 (f := .glo "Book") rfl)
    cl_Book := by unfold clT; first | rfl | simp only [if_pos, if_neg]; decide +kernel
    k_Book := He.cls_ok (c.fact 26 (f := .cls "Book") rfl)
    C_Stamps := He.glo_ok X G (c.fact 27 (f := .glo "Stamps") rfl)
    cl_Stamps := by unfold clT; first | rfl | simp only [if_pos, if_neg]; decide +kernel
    k_Stamps := He.cls_ok (c.fact 28 (f := .cls "Stamps") rfl)
    mk_Book := He.mkr_ok (c.fact 29 (f := .mkr "Book") rfl)
    mk_Stamps := He.mkr_ok (c.fact 30 (f := .mkr "Stamps") rfl)
    ic_Stamps := insTy_of (He.cls_ok (c.fact 28 (f := .cls "Stamps") rfl)) y_Stamps
    n_begun := fldOk_of (fun c hc => by
      simp only [List.mem_cons, List.not_mem_nil, or_false] at hc
      rcases hc with rfl
      · exact ⟨He.ga K "Book", by unfold clT; first | rfl | simp only [if_pos, if_neg]; decide +kernel, He.cls_ok (c.fact 26 (f := .cls "Book") rfl), He.noat_ok (c.fact 31 (f := .noat "Book" "begun") rfl)⟩
    )
    n_deeds := fldOk_of (fun c hc => by
      simp only [List.mem_cons, List.not_mem_nil, or_false] at hc
      rcases hc with rfl
      · exact ⟨He.ga K "Book", by unfold clT; first | rfl | simp only [if_pos, if_neg]; decide +kernel, He.cls_ok (c.fact 26 (f := .cls "Book") rfl), He.noat_ok (c.fact 32 (f := .noat "Book" "deeds") rfl)⟩
    )
    n_held := fldOk_of (fun c hc => by
      simp only [List.mem_cons, List.not_mem_nil, or_false] at hc
      rcases hc with rfl
      · exact ⟨He.ga K "Stamps", by unfold clT; first | rfl | simp only [if_pos, if_neg]; decide +kernel, He.cls_ok (c.fact 28 (f := .cls "Stamps") rfl), He.noat_ok (c.fact 33 (f := .noat "Stamps" "held") rfl)⟩
    )
    n_past := fldOk_of (fun c hc => by
      simp only [List.mem_cons, List.not_mem_nil, or_false] at hc
      rcases hc with rfl
      · exact ⟨He.ga K "Book", by unfold clT; first | rfl | simp only [if_pos, if_neg]; decide +kernel, He.cls_ok (c.fact 26 (f := .cls "Book") rfl), He.noat_ok (c.fact 34 (f := .noat "Book" "past") rfl)⟩
    )
    n_stood := fldOk_of (fun c hc => by
      simp only [List.mem_cons, List.not_mem_nil, or_false] at hc
      rcases hc with rfl
      · exact ⟨He.ga K "Book", by unfold clT; first | rfl | simp only [if_pos, if_neg]; decide +kernel, He.cls_ok (c.fact 26 (f := .cls "Book") rfl), He.noat_ok (c.fact 35 (f := .noat "Book" "stood") rfl)⟩
    )
    n_undone_rows := fldOk_of (fun c hc => by
      simp only [List.mem_cons, List.not_mem_nil, or_false] at hc
      rcases hc with rfl
      · exact ⟨He.ga K "Book", by unfold clT; first | rfl | simp only [if_pos, if_neg]; decide +kernel, He.cls_ok (c.fact 26 (f := .cls "Book") rfl), He.noat_ok (c.fact 36 (f := .noat "Book" "undone_rows") rfl)⟩
    )
    m_Book_again := He.meth_ok (c.fact 37 (f := .meth "Book" "again") rfl)
    m_Book_back := He.meth_ok (c.fact 38 (f := .meth "Book" "back") rfl)
    m_Book_become := He.meth_ok (c.fact 39 (f := .meth "Book" "become") rfl)
    m_Book_changed := He.meth_ok (c.fact 40 (f := .meth "Book" "changed") rfl)
    m_Book_copied := He.meth_ok (c.fact 41 (f := .meth "Book" "copied") rfl)
    m_Book_do := He.meth_ok (c.fact 42 (f := .meth "Book" "do") rfl)
    m_Book_length := He.meth_ok (c.fact 43 (f := .meth "Book" "length") rfl)
    m_Book_need_room := He.meth_ok (c.fact 44 (f := .meth "Book" "need_room") rfl)
    m_Book_need_there := He.meth_ok (c.fact 45 (f := .meth "Book" "need_there") rfl)
    m_Book_put := He.meth_ok (c.fact 46 (f := .meth "Book" "put") rfl)
    m_Book_put_row := He.meth_ok (c.fact 47 (f := .meth "Book" "put_row") rfl)
    m_Book_row := He.meth_ok (c.fact 48 (f := .meth "Book" "row") rfl)
    m_Book_slip := He.meth_ok (c.fact 49 (f := .meth "Book" "slip") rfl)
    m_Book_stood_by := He.meth_ok (c.fact 50 (f := .meth "Book" "stood_by") rfl)
    m_Book_take := He.meth_ok (c.fact 51 (f := .meth "Book" "take") rfl)
    m_Stamps_box := He.meth_ok (c.fact 52 (f := .meth "Stamps" "box") rfl)
    m_Stamps_done := He.meth_ok (c.fact 53 (f := .meth "Stamps" "done") rfl)
    m_Stamps_face_behind := He.meth_ok (c.fact 54 (f := .meth "Stamps" "face_behind") rfl)
    m_Stamps_faces := He.meth_ok (c.fact 55 (f := .meth "Stamps" "faces") rfl)
    m_Stamps_names := He.meth_ok (c.fact 56 (f := .meth "Stamps" "names") rfl)
    m_Stamps_need_deed := He.meth_ok (c.fact 57 (f := .meth "Stamps" "need_deed") rfl)
    g__law_bag := He.glo_ok X G (c.fact 58 (f := .glo "_law_bag") rfl)
    F__law_bag := c.def_ 0 (d := d__law_bag) rfl
    g__law_take := He.glo_ok X G (c.fact 59 (f := .glo "_law_take") rfl)
    F__law_take := c.def_ 1 (d := d__law_take) rfl
    g__law_box := He.glo_ok X G (c.fact 60 (f := .glo "_law_box") rfl)
    F__law_box := c.def_ 2 (d := d__law_box) rfl
    g__law_names := He.glo_ok X G (c.fact 61 (f := .glo "_law_names") rfl)
    F__law_names := c.def_ 3 (d := d__law_names) rfl
    g__law_face := He.glo_ok X G (c.fact 62 (f := .glo "_law_face") rfl)
    F__law_face := c.def_ 4 (d := d__law_face) rfl
    g__law_turnings := He.glo_ok X G (c.fact 63 (f := .glo "_law_turnings") rfl)
    F__law_turnings := c.def_ 5 (d := d__law_turnings) rfl
    g__law_spun := He.glo_ok X G (c.fact 64 (f := .glo "_law_spun") rfl)
    F__law_spun := c.def_ 6 (d := d__law_spun) rfl
    g__law_over := He.glo_ok X G (c.fact 65 (f := .glo "_law_over") rfl)
    F__law_over := c.def_ 7 (d := d__law_over) rfl
    g__law_faces := He.glo_ok X G (c.fact 66 (f := .glo "_law_faces") rfl)
    F__law_faces := c.def_ 8 (d := d__law_faces) rfl
    g_is_name := He.glo_ok X G (c.fact 67 (f := .glo "is_name") rfl)
    F_is_name := c.def_ 9 (d := d_is_name) rfl
    g_is_face_row := He.glo_ok X G (c.fact 68 (f := .glo "is_face_row") rfl)
    F_is_face_row := c.def_ 10 (d := d_is_face_row) rfl
    g_is_face := He.glo_ok X G (c.fact 69 (f := .glo "is_face") rfl)
    F_is_face := c.def_ 11 (d := d_is_face) rfl
    g_box_of := He.glo_ok X G (c.fact 70 (f := .glo "box_of") rfl)
    F_box_of := c.def_ 12 (d := d_box_of) rfl
    g_are_faces := He.glo_ok X G (c.fact 71 (f := .glo "are_faces") rfl)
    F_are_faces := c.def_ 13 (d := d_are_faces) rfl
    F_Stamps___init__ := c.def_ 14 (d := d_Stamps___init__) rfl
    g_good_or_wrong := He.glo_ok X G (c.fact 72 (f := .glo "good_or_wrong") rfl)
    F_good_or_wrong := c.def_ 15 (d := d_good_or_wrong) rfl
    F_Book___init__ := c.def_ 16 (d := d_Book___init__) rfl
    F_Book_copied := c.def_ 17 (d := d_Book_copied) rfl
    F_Book_length := c.def_ 18 (d := d_Book_length) rfl
    g_is_hand_turning := He.glo_ok X G (c.fact 73 (f := .glo "is_hand_turning") rfl)
    F_is_hand_turning := c.def_ 19 (d := d_is_hand_turning) rfl
    g_is_deed := He.glo_ok X G (c.fact 74 (f := .glo "is_deed") rfl)
    F_is_deed := c.def_ 20 (d := d_is_deed) rfl
    g_names_in := He.glo_ok X G (c.fact 75 (f := .glo "names_in") rfl)
    F_names_in := c.def_ 21 (d := d_names_in) rfl
    F_Stamps_names := c.def_ 22 (d := d_Stamps_names) rfl
    F_Stamps_box := c.def_ 23 (d := d_Stamps_box) rfl
    g_quarters := He.glo_ok X G (c.fact 76 (f := .glo "quarters") rfl)
    F_quarters := c.def_ 24 (d := d_quarters) rfl
    g_has_turning := He.glo_ok X G (c.fact 77 (f := .glo "has_turning") rfl)
    F_has_turning := c.def_ 25 (d := d_has_turning) rfl
    F_Stamps_need_deed := c.def_ 26 (d := d_Stamps_need_deed) rfl
    g_mirrored := He.glo_ok X G (c.fact 78 (f := .glo "mirrored") rfl)
    F_mirrored := c.def_ 27 (d := d_mirrored) rfl
    g_laid_sign := He.glo_ok X G (c.fact 79 (f := .glo "laid_sign") rfl)
    F_laid_sign := c.def_ 28 (d := d_laid_sign) rfl
    g_laid_two := He.glo_ok X G (c.fact 80 (f := .glo "laid_two") rfl)
    F_laid_two := c.def_ 29 (d := d_laid_two) rfl
    g_exchanges := He.glo_ok X G (c.fact 81 (f := .glo "exchanges") rfl)
    F_exchanges := c.def_ 30 (d := d_exchanges) rfl
    g_quarter_turned := He.glo_ok X G (c.fact 82 (f := .glo "quarter_turned") rfl)
    F_quarter_turned := c.def_ 31 (d := d_quarter_turned) rfl
    g_turned := He.glo_ok X G (c.fact 83 (f := .glo "turned") rfl)
    F_turned := c.def_ 32 (d := d_turned) rfl
    F_Stamps_face_behind := c.def_ 33 (d := d_Stamps_face_behind) rfl
    F_Stamps_done := c.def_ 34 (d := d_Stamps_done) rfl
    g_done_at := He.glo_ok X G (c.fact 84 (f := .glo "done_at") rfl)
    F_done_at := c.def_ 35 (d := d_done_at) rfl
    g_standings_behind := He.glo_ok X G (c.fact 85 (f := .glo "standings_behind") rfl)
    F_standings_behind := c.def_ 36 (d := d_standings_behind) rfl
    F_Book_stood_by := c.def_ 37 (d := d_Book_stood_by) rfl
    F_Stamps_faces := c.def_ 38 (d := d_Stamps_faces) rfl
    g_otherwise := He.glo_ok X G (c.fact 86 (f := .glo "otherwise") rfl)
    F_otherwise := c.def_ 39 (d := d_otherwise) rfl
    F_Book_become := c.def_ 40 (d := d_Book_become) rfl
    F_Book_back := c.def_ 41 (d := d_Book_back) rfl
    F_Book_again := c.def_ 42 (d := d_Book_again) rfl
    g__law_deed := He.glo_ok X G (c.fact 87 (f := .glo "_law_deed") rfl)
    F__law_deed := c.def_ 43 (d := d__law_deed) rfl
    g__law_doing := He.glo_ok X G (c.fact 88 (f := .glo "_law_doing") rfl)
    F__law_doing := c.def_ 44 (d := d__law_doing) rfl
    g__law_row_by := He.glo_ok X G (c.fact 89 (f := .glo "_law_row_by") rfl)
    F__law_row_by := c.def_ 45 (d := d__law_row_by) rfl
    F_Book_need_room := c.def_ 46 (d := d_Book_need_room) rfl
    F_Book_changed := c.def_ 47 (d := d_Book_changed) rfl
    F_Book_do := c.def_ 48 (d := d_Book_do) rfl
    g_is_whole := He.glo_ok X G (c.fact 90 (f := .glo "is_whole") rfl)
    F_is_whole := c.def_ 49 (d := d_is_whole) rfl
    g_is_from_none := He.glo_ok X G (c.fact 91 (f := .glo "is_from_none") rfl)
    F_is_from_none := c.def_ 50 (d := d_is_from_none) rfl
    F_Book_need_there := c.def_ 51 (d := d_Book_need_there) rfl
    F_Book_put_row := c.def_ 52 (d := d_Book_put_row) rfl
    F_Book_put := c.def_ 53 (d := d_Book_put) rfl
    F_Book_slip := c.def_ 54 (d := d_Book_slip) rfl
    F_Book_take := c.def_ 55 (d := d_Book_take) rfl
    g__law_told_by := He.glo_ok X G (c.fact 92 (f := .glo "_law_told_by") rfl)
    F__law_told_by := c.def_ 56 (d := d__law_told_by) rfl
    g__law_done := He.glo_ok X G (c.fact 93 (f := .glo "_law_done") rfl)
    F__law_done := c.def_ 57 (d := d__law_done) rfl
    g__law_stood := He.glo_ok X G (c.fact 94 (f := .glo "_law_stood") rfl)
    F__law_stood := c.def_ 58 (d := d__law_stood) rfl
    g__law_otherwise := He.glo_ok X G (c.fact 95 (f := .glo "_law_otherwise") rfl)
    F__law_otherwise := c.def_ 59 (d := d__law_otherwise) rfl
    g__law_changed := He.glo_ok X G (c.fact 96 (f := .glo "_law_changed") rfl)
    F__law_changed := c.def_ 60 (d := d__law_changed) rfl
    F_Book_row := c.def_ 61 (d := d_Book_row) rfl
    g__law_step := He.glo_ok X G (c.fact 97 (f := .glo "_law_step") rfl)
    F__law_step := c.def_ 62 (d := d__law_step) rfl
    g_law := He.glo_ok X G (c.fact 98 (f := .glo "law") rfl)
    F_law := c.def_ 63 (d := d_law) rfl
  }
end K88

set_option Elab.async false
set_option linter.all false
set_option maxRecDepth 100000
set_option maxHeartbeats 0
namespace K88
open PySem L2 MM
/-! ### 5. the walk: one theorem a def -/
section
variable {P : Program} {w : World} {K : PySem.W.Frag} {mg : Str → Option Value} {base : Heap} {cl : Str → Option Addr}
theorem ok__law_bag (T : Tx K mg cl) : Good P w K mg base cl 1 (He.ga K "_law_bag") f__law_bag 1 :=
  have sc := sc__law_bag
  good_of T.F__law_bag sc rfl rfl (fun _ _ _ _ _ _ us hl => match us, hl with | [_], _ => rfl) fun cdv A outer s H E hr =>
    (rss_one (rs_ret (re_own (rf_lst (ra_cons re_int (ra_cons re_int (ra_cons re_int (ra_cons (re_frz (rf_lc (own := [("cell", 1)]) rfl (by rfl) sc.nd (blkOk_by (by kernel_rfl)) (ri_any (re_sl (re_var 0) ro_none (ro_some re_int))) (fun _ _ _ _ _ => (rg_name 1 sc.nd)) (fun _ _ _ _ _ => rts_nil) (fun _ _ _ _ _ => (re_b1 c_abs (pe_callB callr_any (by rfl) T.b_abs PyProof.Rows.boot_abs (pa_cons peW pa_nil)) (re_var 1))) (by decide))) ra_nil))))))))
theorem ok__law_take (T : Tx K mg cl) : Good P w K mg base cl 1 (He.ga K "_law_take") f__law_take 2 :=
  have sc := sc__law_take
  good_of T.F__law_take sc rfl rfl (fun _ _ _ _ _ _ us hl => match us, hl with | [_, _], _ => rfl) fun cdv A outer s H E hr =>
    (rss_cons (rs_if (rt_cmp (os_eq (room64 hr)) (re_ix (room64 hr) (re_var 0) re_int) re_int (nomark _)) (rss_cons (rs_set 4 sc.nd re_int) (rss_cons (rs_if (rt_cmp os_lt (re_ix (room64 hr) (re_var 0) re_int) (re_b1 c_len (pe_callB callr_any (by rfl) T.b_len boot_len (pa_cons peW pa_nil)) (re_ix (room64 hr) (re_var 0) re_int)) (nomark _)) (rss_one (rs_set 4 sc.nd (re_ix (room64 hr) (re_ix (room64 hr) (re_var 0) re_int) (re_ix (room64 hr) (re_var 0) re_int)))) rss_nil) (rss_cons (rs_augL (re_var 0) re_int re_int) (rss_cons (rs_if (rt_cmp os_ge (re_var 4) re_int (nomark _)) (rss_one (rs_subL (re_var 4) (re_var 0) re_int)) rss_nil) (rss_one (rs_subL (re_bin os_mod (re_bin os_add (re_bin os_add (re_bin os_mul (re_ix (room64 hr) (re_var 0) re_int) re_int) (re_bin os_mod (re_var 4) re_int)) (re_bin os_mul re_int (re_ix (room64 hr) (re_var 0) re_int))) re_int) (re_var 0) re_int)))))) rss_nil) (rss_cons (rs_if (rt_cmp os_gt (re_ix (room64 hr) (re_var 0) re_int) re_int (nomark _)) (rss_cons (rs_set 5 sc.nd (re_bin os_mod (re_ix (room64 hr) (re_var 0) re_int) (re_var 1))) (rss_cons (rs_subL (re_bin os_fdiv (re_ix (room64 hr) (re_var 0) re_int) (re_var 1)) (re_var 0) re_int) (rss_one (rs_ret (re_var 5))))) rss_nil) (rss_cons (rs_set 2 sc.nd (re_bin os_mod (re_bin os_mul (re_bin os_add (re_ix (room64 hr) (re_var 0) re_int) re_int) re_int) re_int)) (rss_cons (rs_set 3 sc.nd (re_bin os_mod (re_bin os_mul (re_bin os_mod (re_bin os_mul (re_var 2) (re_var 2)) re_int) re_int) re_int)) (rss_cons (rs_if (rt_cmp os_gt (re_var 1) re_int (nomark _)) (rss_one (rs_ret (re_bin os_mod (re_bin os_add (re_bin os_mul (re_var 3) re_int) (re_var 2)) (re_var 1)))) rss_nil) (rss_one (rs_ret (re_bin os_mod (re_bin os_fdiv (re_var 3) re_int) (re_var 1)))))))))
theorem ok__law_box (T : Tx K mg cl) : Good P w K mg base cl 2 (He.ga K "_law_box") f__law_box 2 :=
  have sc := sc__law_box
  good_of T.F__law_box sc rfl rfl (fun _ _ _ _ _ _ us hl => match us, hl with | [_, _], _ => rfl) fun cdv A outer s H E hr =>
    (rss_cons (rs_set 2 sc.nd (re_bin os_add re_int (re_callG (ok__law_take T) (hr.mono (by decide)) T.g__law_take (ra_cons (re_var 0) (ra_cons (re_var 1) ra_nil)) (al_cons (al_cons al_nil))))) (rss_one (rs_ret (re_tup (ra_cons (re_var 2) (ra_cons (re_ix (room64 hr) (re_frz (rf_lst (ra_cons (re_var 2) (ra_cons (re_var 2) (ra_cons (re_bin os_add re_int (re_callG (ok__law_take T) (hr.mono (by decide)) T.g__law_take (ra_cons (re_var 0) (ra_cons (re_var 1) ra_nil)) (al_cons (al_cons al_nil)))) ra_nil))))) (re_callG (ok__law_take T) (hr.mono (by decide)) T.g__law_take (ra_cons (re_var 0) (ra_cons re_int ra_nil)) (al_cons (al_cons al_nil)))) ra_nil))))))
theorem ok__law_names (T : Tx K mg cl) : Good P w K mg base cl 2 (He.ga K "_law_names") f__law_names 2 :=
  have sc := sc__law_names
  good_of T.F__law_names sc rfl rfl (fun _ _ _ _ _ _ us hl => match us, hl with | [_, _], _ => rfl) fun cdv A outer s H E hr =>
    (rss_cons (rs_set 2 sc.nd re_str) (rss_cons (rs_set 3 sc.nd (re_bin os_mul (re_ix (room64 hr) (re_var 2) (re_callG (ok__law_take T) (hr.mono (by decide)) T.g__law_take (ra_cons (re_var 0) (ra_cons re_int ra_nil)) (al_cons (al_cons al_nil)))) (re_bin os_add re_int (re_callG (ok__law_take T) (hr.mono (by decide)) T.g__law_take (ra_cons (re_var 0) (ra_cons re_int ra_nil)) (al_cons (al_cons al_nil)))))) (rss_cons (rs_set 4 sc.nd (re_callG (ok__law_take T) (hr.mono (by decide)) T.g__law_take (ra_cons (re_var 0) (ra_cons (re_b1 c_len (pe_callB callr_any (by rfl) T.b_len boot_len (pa_cons peW pa_nil)) (re_var 3)) ra_nil)) (al_cons (al_cons al_nil)))) (rss_cons (rs_set 5 sc.nd (re_callG (ok__law_take T) (hr.mono (by decide)) T.g__law_take (ra_cons (re_var 0) (ra_cons re_int ra_nil)) (al_cons (al_cons al_nil)))) (rss_cons (rs_if (rt_cmp (os_eq (room64 hr)) (re_var 5) re_int (nomark _)) (rss_cons (rs_set 7 sc.nd (re_frz (rf_lst (ra_cons re_str (ra_cons re_str (ra_cons re_str (ra_cons re_str (ra_cons re_str (ra_cons re_str ra_nil))))))))) (rss_one (rs_ret (re_sl (re_bin os_add (re_sl (re_var 7) (ro_some (re_bin os_mod (re_var 4) re_int)) ro_none) (re_sl (re_var 7) ro_none (ro_some (re_bin os_mod (re_var 4) re_int)))) ro_none (ro_some (re_var 1)))))) rss_nil) (rss_cons (rs_set 6 sc.nd (re_frz (rf_lc (own := [("k", 8)]) rfl (by rfl) sc.nd (blkOk_by (by kernel_rfl)) (ri_range1 T.b_range (re_var 1)) (fun _ _ _ _ _ => (rg_name 8 sc.nd)) (fun _ _ _ _ _ => rts_nil) (fun _ _ _ _ _ => (re_bin os_add (re_bin os_add (re_sl (re_var 3) ro_none (ro_some (re_var 4))) (re_ix (room64 hr) (re_var 2) (re_bin os_mod (re_bin os_add (re_var 5) (re_bin os_mul re_int (re_var 8))) re_int))) (re_sl (re_var 3) (ro_some (re_bin os_add (re_var 4) re_int)) ro_none))) (by decide)))) (rss_one (rs_ret (re_frz (rf_lc (own := [("k", 8)]) rfl (by rfl) sc.nd (blkOk_by (by kernel_rfl)) (ri_range1 T.b_range (re_var 1)) (fun _ _ _ _ _ => (rg_name 8 sc.nd)) (fun _ _ _ _ _ => rts_nil) (fun _ _ _ _ _ => (re_bin os_add (re_ix (room64 hr) (re_var 6) (re_var 8)) (re_bin os_mul (re_sl (re_var 3) ro_none (ro_some re_int)) (re_bin os_mul (re_bin os_mod (re_var 8) re_int) (re_b1 c_int (pe_callTy callr_any (by rfl) T.b_int PyProof.Rows.boot_int (pa_cons peW pa_nil)) (re_cmp os_lt (re_b1 c_len (pe_callB callr_any (by rfl) T.b_len boot_len (pa_cons peW pa_nil)) (re_var 3)) re_int (nomark _))))))) (by decide)))))))))))
theorem ok__law_face (T : Tx K mg cl) : Good P w K mg base cl 2 (He.ga K "_law_face") f__law_face 2 :=
  have sc := sc__law_face
  good_of T.F__law_face sc rfl rfl (fun _ _ _ _ _ _ us hl => match us, hl with | [_, _], _ => rfl) fun cdv A outer s H E hr =>
    (rss_cons (rs_set 2 sc.nd (re_ix (room64 hr) (re_frz (rf_lst (ra_cons re_int (ra_cons re_int (ra_cons re_int (ra_cons re_int (ra_cons re_int (ra_cons re_int ra_nil)))))))) (re_callG (ok__law_take T) (hr.mono (by decide)) T.g__law_take (ra_cons (re_var 0) (ra_cons re_int ra_nil)) (al_cons (al_cons al_nil))))) (rss_cons (rs_setLc 3 (own := [("y", 5)]) rfl (by rfl) sc.nd (by rfl) (by rfl) (by rfl) (blkOk_by (by kernel_rfl)) (ri_range1 T.b_range (re_ix (room64 hr) (re_var 1) re_int)) (fun _ _ _ _ _ => (rg_name 5 sc.nd)) (fun _ _ _ _ _ => rts_nil) (fun _ _ _ _ _ => (re_join (pe_m1 PySem.F.slot_str_join PySem.F.type_str_join mtr_any peW peW) re_str (re_frz (rf_lc (own := [("x", 6)]) rfl (by rfl) sc.nd (blkOk_by (by kernel_rfl)) (ri_range1 T.b_range (re_ix (room64 hr) (re_var 1) re_int)) (fun _ _ _ _ _ => (rg_name 6 sc.nd)) (fun _ _ _ _ _ => rts_nil) (fun _ _ _ _ _ => (re_ix (room64 hr) re_str (re_b1 c_int (pe_callTy callr_any (by rfl) T.b_int PyProof.Rows.boot_int (pa_cons peW pa_nil)) (re_cmp (os_eq (room64 hr)) (re_callG (ok__law_take T) (hr.mono (by decide)) T.g__law_take (ra_cons (re_var 0) (ra_cons (re_var 2) ra_nil)) (al_cons (al_cons al_nil))) re_int (nomark _))))) (by decide))))) (by decide)) (rss_cons (rs_set 4 sc.nd (re_tup (ra_cons (re_callG (ok__law_take T) (hr.mono (by decide)) T.g__law_take (ra_cons (re_var 0) (ra_cons (re_ix (room64 hr) (re_var 1) re_int) ra_nil)) (al_cons (al_cons al_nil))) (ra_cons (re_callG (ok__law_take T) (hr.mono (by decide)) T.g__law_take (ra_cons (re_var 0) (ra_cons (re_ix (room64 hr) (re_var 1) re_int) ra_nil)) (al_cons (al_cons al_nil))) ra_nil)))) (rss_cons (rs_if (rt_cmp (os_eq (room64 hr)) (re_var 2) re_int (nomark _)) (rss_one (rs_setLc 3 (own := [("y", 5)]) rfl (by rfl) sc.nd (by rfl) (by rfl) (by rfl) (blkOk_by (by kernel_rfl)) (ri_range1 T.b_range (re_ix (room64 hr) (re_var 1) re_int)) (fun _ _ _ _ _ => (rg_name 5 sc.nd)) (fun _ _ _ _ _ => rts_nil) (fun _ _ _ _ _ => (re_join (pe_m1 PySem.F.slot_str_join PySem.F.type_str_join mtr_any peW peW) re_str (re_frz (rf_lc (own := [("x", 6)]) rfl (by rfl) sc.nd (blkOk_by (by kernel_rfl)) (ri_range1 T.b_range (re_ix (room64 hr) (re_var 1) re_int)) (fun _ _ _ _ _ => (rg_name 6 sc.nd)) (fun _ _ _ _ _ => rts_nil) (fun _ _ _ _ _ => (re_ix (room64 hr) re_str (re_b1 c_int (pe_callTy callr_any (by rfl) T.b_int PyProof.Rows.boot_int (pa_cons peW pa_nil)) (re_cmp (os_eq (room64 hr)) (re_tup (ra_cons (re_var 6) (ra_cons (re_var 5) ra_nil))) (re_var 4) (nomark _))))) (by decide))))) (by decide))) rss_nil) (rss_cons (rs_if (rt_rw (rw_and (rt_cmp (os_eq (room64 hr)) (re_var 2) re_int (nomark _)) (rw_and1 (rt_cmp (os_eq (room64 hr)) (re_ix (room64 hr) (re_var 4) re_int) re_int (nomark _))))) (rss_one (rs_set 3 sc.nd (re_bin os_mul (re_frz (rf_lst (ra_cons (re_bin os_mul re_str (re_ix (room64 hr) (re_var 1) re_int)) ra_nil))) (re_ix (room64 hr) (re_var 1) re_int)))) rss_nil) (rss_one (rs_ret (re_b1 c_tuple (pe_callTy callr_any (by rfl) T.b_tuple PyProof.Rows.boot_tuple (pa_cons peW pa_nil)) (re_var 3)))))))))
theorem ok__law_turnings (T : Tx K mg cl) : Good P w K mg base cl 1 (He.ga K "_law_turnings") f__law_turnings 1 :=
  have sc := sc__law_turnings
  good_of T.F__law_turnings sc rfl rfl (fun _ _ _ _ _ _ us hl => match us, hl with | [_], _ => rfl) fun cdv A outer s H E hr =>
    (rss_cons (rs_if (rt_cmp (os_eq (room64 hr)) (re_ix (room64 hr) (re_var 0) re_int) (re_ix (room64 hr) (re_var 0) re_int) (nomark _)) (rss_one (rs_ret (re_frz (rf_lst (ra_cons re_str (ra_cons re_str (ra_cons re_str (ra_cons re_str (ra_cons re_str (ra_cons re_str (ra_cons re_str (ra_cons re_str ra_nil)))))))))))) rss_nil) (rss_one (rs_ret (re_frz (rf_lst (ra_cons re_str (ra_cons re_str (ra_cons re_str (ra_cons re_str ra_nil)))))))))
theorem ok__law_spun (T : Tx K mg cl) : Good P w K mg base cl 1 (He.ga K "_law_spun") f__law_spun 2 :=
  have sc := sc__law_spun
  good_of T.F__law_spun sc rfl rfl (fun _ _ _ _ _ _ us hl => match us, hl with | [_, _], _ => rfl) fun cdv A outer s H E hr =>
    (rss_cons (rs_set 2 sc.nd (re_own (rf_lst ra_nil))) (rss_cons (rs_for PassesOwn.never rfl (ri_range1 T.b_range (re_b1 c_len (pe_callB callr_any (by rfl) T.b_len boot_len (pa_cons peW pa_nil)) (re_var 0))) (rg_name 3 sc.nd) (rss_one (rs_expr (re_mut m_extend (pe_bm PySem.F.plainAttrs_list PySem.F.slot_list_extend PySem.F.type_list_extend mtr_any peW paW) (re_var 2) (ra_cons (re_frz (rf_lc (own := [("x", 7)]) rfl (by rfl) sc.nd (blkOk_by (by kernel_rfl)) (ri_range1 T.b_range (re_b1 c_len (pe_callB callr_any (by rfl) T.b_len boot_len (pa_cons peW pa_nil)) (re_ix (room64 hr) (re_var 0) (re_var 3)))) (fun _ _ _ _ _ => (rg_name 7 sc.nd)) (fun _ _ _ _ _ => (rts_one (rt_cmp (os_eq (room64 hr)) (re_ix (room64 hr) (re_ix (room64 hr) (re_var 0) (re_var 3)) (re_var 7)) re_str (nomark _)))) (fun _ _ _ _ _ => (re_tup (ra_cons (re_var 7) (ra_cons (re_var 3) ra_nil)))) (by decide))) ra_nil))))) (rss_frz (i := 2) (rss_cons (rs_asg (re_tup (ra_cons (re_b1 c_len (pe_callB callr_any (by rfl) T.b_len boot_len (pa_cons peW pa_nil)) (re_ix (room64 hr) (re_var 0) re_int)) (ra_cons (re_b1 c_len (pe_callB callr_any (by rfl) T.b_len boot_len (pa_cons peW pa_nil)) (re_var 0)) ra_nil))) (rg_tup (rgs_cons (rg_name 4 sc.nd) (rgs_cons (rg_name 5 sc.nd) rgs_nil)) (gl_cons (gl_cons gl_nil)))) (rss_cons (rs_if (rt_cmp (os_eq (room64 hr)) (re_ix (room64 hr) (re_var 1) re_int) re_str (nomark _)) (rss_one (rs_set 2 sc.nd (re_frz (rf_lc (own := [("x", 7), ("y", 3)]) rfl (by rfl) sc.nd (blkOk_by (by kernel_rfl)) (ri_any (re_var 2)) (fun _ _ _ _ _ => (rg_tup (rgs_cons (rg_name 7 sc.nd) (rgs_cons (rg_name 3 sc.nd) rgs_nil)) (gl_cons (gl_cons gl_nil)))) (fun _ _ _ _ _ => rts_nil) (fun _ _ _ _ _ => (re_tup (ra_cons (re_bin os_sub (re_bin os_sub (re_var 4) re_int) (re_var 7)) (ra_cons (re_var 3) ra_nil)))) (by decide))))) rss_nil) (rss_cons (rs_for PassesOwn.never rfl (ri_range1 T.b_range (re_sindex (pe_m1 PySem.F.slot_str_index PySem.F.type_str_index mtr_any peW peW) re_str (re_ix (room64 hr) (re_var 1) re_int))) (rg_name 6 sc.nd) (rss_cons (rs_set 2 sc.nd (re_frz (rf_lc (own := [("x", 7), ("y", 3)]) rfl (by rfl) sc.nd (blkOk_by (by kernel_rfl)) (ri_any (re_var 2)) (fun _ _ _ _ _ => (rg_tup (rgs_cons (rg_name 7 sc.nd) (rgs_cons (rg_name 3 sc.nd) rgs_nil)) (gl_cons (gl_cons gl_nil)))) (fun _ _ _ _ _ => rts_nil) (fun _ _ _ _ _ => (re_tup (ra_cons (re_bin os_sub (re_bin os_sub (re_var 5) re_int) (re_var 3)) (ra_cons (re_var 7) ra_nil)))) (by decide)))) (rss_one (rs_asg (re_tup (ra_cons (re_var 5) (ra_cons (re_var 4) ra_nil))) (rg_tup (rgs_cons (rg_name 4 sc.nd) (rgs_cons (rg_name 5 sc.nd) rgs_nil)) (gl_cons (gl_cons gl_nil))))))) (rss_one (rs_ret (re_b1 c_tuple (pe_callTy callr_any (by rfl) T.b_tuple PyProof.Rows.boot_tuple (pa_cons peW pa_nil)) (re_frz (rf_lc (own := [("y", 3)]) rfl (by rfl) sc.nd (blkOk_by (by kernel_rfl)) (ri_range1 T.b_range (re_var 5)) (fun _ _ _ _ _ => (rg_name 3 sc.nd)) (fun _ _ _ _ _ => rts_nil) (fun _ _ _ _ _ => (re_join (pe_m1 PySem.F.slot_str_join PySem.F.type_str_join mtr_any peW peW) re_str (re_frz (rf_lc (own := [("x", 7)]) rfl (by rfl) sc.nd (blkOk_by (by kernel_rfl)) (ri_range1 T.b_range (re_var 4)) (fun _ _ _ _ _ => (rg_name 7 sc.nd)) (fun _ _ _ _ _ => rts_nil) (fun _ _ _ _ _ => (re_ix (room64 hr) re_str (re_b1 c_int (pe_callTy callr_any (by rfl) T.b_int PyProof.Rows.boot_int (pa_cons peW pa_nil)) (re_cmp (os_in (room65 hr)) (re_tup (ra_cons (re_var 7) (ra_cons (re_var 3) ra_nil))) (re_var 2) (by rfl))))) (by decide))))) (by decide))))))))))))
theorem ok__law_over (T : Tx K mg cl) : Good P w K mg base cl 1 (He.ga K "_law_over") f__law_over 2 :=
  have sc := sc__law_over
  good_of T.F__law_over sc rfl rfl (fun _ _ _ _ _ _ us hl => match us, hl with | [_, _], _ => rfl) fun cdv A outer s H E hr =>
    (rss_cons (rs_set 2 sc.nd (re_own (rf_lst ra_nil))) (rss_cons (rs_for PassesOwn.never rfl (ri_range1 T.b_range (re_b1 c_len (pe_callB callr_any (by rfl) T.b_len boot_len (pa_cons peW pa_nil)) (re_var 0))) (rg_name 3 sc.nd) (rss_one (rs_expr (re_mut m_append (pe_bm PySem.F.plainAttrs_list PySem.F.slot_list_append PySem.F.type_list_append mtr_any peW paW) (re_var 2) (ra_cons (re_join (pe_m1 PySem.F.slot_str_join PySem.F.type_str_join mtr_any peW peW) re_str (re_frz (rf_lc (own := [("x", 4)]) rfl (by rfl) sc.nd (blkOk_by (by kernel_rfl)) (ri_range1 T.b_range (re_b1 c_len (pe_callB callr_any (by rfl) T.b_len boot_len (pa_cons peW pa_nil)) (re_ix (room64 hr) (re_var 0) (re_var 3)))) (fun _ _ _ _ _ => (rg_name 4 sc.nd)) (fun _ _ _ _ _ => rts_nil) (fun _ _ _ _ _ => (re_ix (room64 hr) re_str (re_b1 c_int (pe_callTy callr_any (by rfl) T.b_int PyProof.Rows.boot_int (pa_cons peW pa_nil)) (re_cmp (os_ne (room64 hr)) (re_ix (room64 hr) (re_ix (room64 hr) (re_var 0) (re_var 3)) (re_var 4)) (re_ix (room64 hr) (re_ix (room64 hr) (re_var 1) (re_var 3)) (re_var 4)) (nomark _))))) (by decide)))) ra_nil))))) (rss_one (rs_ret (re_b1 c_tuple (pe_callTy callr_any (by rfl) T.b_tuple PyProof.Rows.boot_tuple (pa_cons peW pa_nil)) (re_var 2))))))
theorem ok__law_faces (T : Tx K mg cl) : Good P w K mg base cl 3 (He.ga K "_law_faces") f__law_faces 3 :=
  have sc := sc__law_faces
  good_of T.F__law_faces sc rfl rfl (fun _ _ _ _ _ _ us hl => match us, hl with | [_, _, _], _ => rfl) fun cdv A outer s H E hr =>
    (rss_cons (rs_set 3 sc.nd (re_ownD rd_new)) (rss_cons (rs_set 4 sc.nd (re_own (rf_lst (ra_cons (re_callG (ok__law_face T) (hr.mono (by decide)) T.g__law_face (ra_cons (re_var 0) (ra_cons (re_var 1) ra_nil)) (al_cons (al_cons al_nil))) ra_nil)))) (rss_cons (rs_for PassesOwn.never rfl (ri_any (re_var 2)) (rg_name 5 sc.nd) (rss_cons (rs_set 6 sc.nd (re_callG (ok__law_take T) (hr.mono (by decide)) T.g__law_take (ra_cons (re_var 0) (ra_cons re_int ra_nil)) (al_cons (al_cons al_nil)))) (rss_cons (rs_set 7 sc.nd (re_ix (room64 hr) (re_var 4) (re_callG (ok__law_take T) (hr.mono (by decide)) T.g__law_take (ra_cons (re_var 0) (ra_cons (re_b1 c_len (pe_callB callr_any (by rfl) T.b_len boot_len (pa_cons peW pa_nil)) (re_var 4)) ra_nil)) (al_cons (al_cons al_nil))))) (rss_cons (rs_if (rt_cmp (os_eq (room64 hr)) (re_var 6) re_int (nomark _)) (rss_one (rs_subD (room64 hr) (re_b1 c_tuple (pe_callTy callr_any (by rfl) T.b_tuple PyProof.Rows.boot_tuple (pa_cons peW pa_nil)) (re_bin os_mul (re_frz (rf_lst (ra_cons (re_bin os_mul re_str (re_ix (room64 hr) (re_var 1) re_int)) ra_nil))) (re_ix (room64 hr) (re_var 1) re_int))) (re_var 3) (re_var 5))) (rss_one (rs_if (rt_cmp os_lt (re_var 6) re_int (nomark _)) (rss_one (rs_subD (room64 hr) (re_callG (ok__law_face T) (hr.mono (by decide)) T.g__law_face (ra_cons (re_var 0) (ra_cons (re_var 1) ra_nil)) (al_cons (al_cons al_nil))) (re_var 3) (re_var 5))) (rss_one (rs_if (rt_cmp (os_eq (room64 hr)) (re_var 6) re_int (nomark _)) (rss_one (rs_subD (room64 hr) (re_var 7) (re_var 3) (re_var 5))) (rss_cons (rs_set 8 sc.nd (re_callG (ok__law_turnings T) (hr.mono (by decide)) T.g__law_turnings (ra_cons (re_var 1) ra_nil) (al_cons al_nil))) (rss_cons (rs_subD (room64 hr) (re_callG (ok__law_spun T) (hr.mono (by decide)) T.g__law_spun (ra_cons (re_var 7) (ra_cons (re_ix (room64 hr) (re_var 8) (re_callG (ok__law_take T) (hr.mono (by decide)) T.g__law_take (ra_cons (re_var 0) (ra_cons (re_b1 c_len (pe_callB callr_any (by rfl) T.b_len boot_len (pa_cons peW pa_nil)) (re_var 8)) ra_nil)) (al_cons (al_cons al_nil)))) ra_nil)) (al_cons (al_cons al_nil))) (re_var 3) (re_var 5)) (rss_one (rs_if (rt_cmp (os_eq (room64 hr)) (re_var 6) re_int (nomark _)) (rss_one (rs_subD (room64 hr) (re_callG (ok__law_over T) (hr.mono (by decide)) T.g__law_over (ra_cons (re_ix (room64 hr) (re_var 3) (re_var 5)) (ra_cons (re_ix (room64 hr) (re_var 4) (re_callG (ok__law_take T) (hr.mono (by decide)) T.g__law_take (ra_cons (re_var 0) (ra_cons (re_b1 c_len (pe_callB callr_any (by rfl) T.b_len boot_len (pa_cons peW pa_nil)) (re_var 4)) ra_nil)) (al_cons (al_cons al_nil)))) ra_nil)) (al_cons (al_cons al_nil))) (re_var 3) (re_var 5))) rss_nil))))))))) (rss_one (rs_expr (re_mut m_append (pe_bm PySem.F.plainAttrs_list PySem.F.slot_list_append PySem.F.type_list_append mtr_any peW paW) (re_var 4) (ra_cons (re_ix (room64 hr) (re_var 3) (re_var 5)) ra_nil)))))))) (rss_one (rs_ret (re_freeze (re_var 3)))))))
theorem ok_is_name (T : Tx K mg cl) : Good P w K mg base cl 1 (He.ga K "is_name") f_is_name 1 :=
  have sc := sc_is_name
  good_of T.F_is_name sc rfl rfl (fun _ _ _ _ _ _ us hl => match us, hl with | [_], _ => rfl) fun cdv A outer s H E hr =>
    (rss_cons (rs_if (rt_rw (rw_or (rt_not (rt_of (re_isB (T := "str") (pe_callB callr_any (by rfl) T.b_isinstance PyProof.Rows.boot_isinstance (pa_cons peW (pa_cons (pe_bltn (by rfl) T.b_str PyProof.Rows.boot_str rfl) pa_nil))) (by decide) (re_var 0)))) (rw_or1 (rt_not (rt_chain os_le os_le re_int (re_b1 c_len (pe_callB callr_any (by rfl) T.b_len boot_len (pa_cons peW pa_nil)) (re_var 0)) (re_glob T.g_MOST_LETTERS)))))) (rss_one (rs_ret re_bl)) rss_nil) (rss_one (rs_ret (re_b1 (c_all) (pe_callB callr_any (by rfl) T.b_all PyProof.Rows.boot_all (pa_cons peW pa_nil)) (re_frz (rf_lc (own := [("sign", 1)]) rfl (by rfl) sc.nd (blkOk_by (by kernel_rfl)) (ri_any (re_var 0)) (fun _ _ _ _ _ => (rg_name 1 sc.nd)) (fun _ _ _ _ _ => rts_nil) (fun _ _ _ _ _ => (re_cmp (os_in (room65 hr)) (re_var 1) (re_glob T.g_LETTERS) (by rfl))) (by decide)))))))
theorem ok_is_face_row (T : Tx K mg cl) : Good P w K mg base cl 1 (He.ga K "is_face_row") f_is_face_row 1 :=
  have sc := sc_is_face_row
  good_of T.F_is_face_row sc rfl rfl (fun _ _ _ _ _ _ us hl => match us, hl with | [_], _ => rfl) fun cdv A outer s H E hr =>
    (rss_cons (rs_if (rt_rw (rw_or (rt_not (rt_of (re_isB (T := "str") (pe_callB callr_any (by rfl) T.b_isinstance PyProof.Rows.boot_isinstance (pa_cons peW (pa_cons (pe_bltn (by rfl) T.b_str PyProof.Rows.boot_str rfl) pa_nil))) (by decide) (re_var 0)))) (rw_or1 (rt_not (rt_chain os_le os_le re_int (re_b1 c_len (pe_callB callr_any (by rfl) T.b_len boot_len (pa_cons peW pa_nil)) (re_var 0)) (re_glob T.g_MOST_SIDE)))))) (rss_one (rs_ret re_bl)) rss_nil) (rss_one (rs_ret (re_b1 (c_all) (pe_callB callr_any (by rfl) T.b_all PyProof.Rows.boot_all (pa_cons peW pa_nil)) (re_frz (rf_lc (own := [("sign", 1)]) rfl (by rfl) sc.nd (blkOk_by (by kernel_rfl)) (ri_any (re_var 0)) (fun _ _ _ _ _ => (rg_name 1 sc.nd)) (fun _ _ _ _ _ => rts_nil) (fun _ _ _ _ _ => (re_or (re_cmp (os_eq (room64 hr)) (re_var 1) (re_glob T.g_UP) (nomark _)) (re_one (re_cmp (os_eq (room64 hr)) (re_var 1) (re_glob T.g_FLAT) (nomark _))))) (by decide)))))))
theorem ok_is_face (T : Tx K mg cl) : Good P w K mg base cl 2 (He.ga K "is_face") f_is_face 1 :=
  have sc := sc_is_face
  good_of T.F_is_face sc rfl rfl (fun _ _ _ _ _ _ us hl => match us, hl with | [_], _ => rfl) fun cdv A outer s H E hr =>
    (rss_cons (rs_if (rt_rw (rw_or (rt_not (rt_of (re_isB (T := "tuple") (pe_callB callr_any (by rfl) T.b_isinstance PyProof.Rows.boot_isinstance (pa_cons peW (pa_cons (pe_bltn (by rfl) T.b_tuple PyProof.Rows.boot_tuple rfl) pa_nil))) (by decide) (re_var 0)))) (rw_or1 (rt_not (rt_chain os_le os_le re_int (re_b1 c_len (pe_callB callr_any (by rfl) T.b_len boot_len (pa_cons peW pa_nil)) (re_var 0)) (re_glob T.g_MOST_SIDE)))))) (rss_one (rs_ret re_bl)) rss_nil) (rss_one (rs_ret (re_and (re_b1 (c_all) (pe_callB callr_any (by rfl) T.b_all PyProof.Rows.boot_all (pa_cons peW pa_nil)) (re_frz (rf_lc (own := [("row", 1)]) rfl (by rfl) sc.nd (blkOk_by (by kernel_rfl)) (ri_any (re_var 0)) (fun _ _ _ _ _ => (rg_name 1 sc.nd)) (fun _ _ _ _ _ => rts_nil) (fun _ _ _ _ _ => (re_callG (ok_is_face_row T) (hr.mono (by decide)) T.g_is_face_row (ra_cons (re_var 1) ra_nil) (al_cons al_nil))) (by decide)))) (re_one (re_b1 (c_all) (pe_callB callr_any (by rfl) T.b_all PyProof.Rows.boot_all (pa_cons peW pa_nil)) (re_frz (rf_lc (own := [("row", 1)]) rfl (by rfl) sc.nd (blkOk_by (by kernel_rfl)) (ri_any (re_var 0)) (fun _ _ _ _ _ => (rg_name 1 sc.nd)) (fun _ _ _ _ _ => rts_nil) (fun _ _ _ _ _ => (re_cmp (os_eq (room64 hr)) (re_b1 c_len (pe_callB callr_any (by rfl) T.b_len boot_len (pa_cons peW pa_nil)) (re_var 1)) (re_b1 c_len (pe_callB callr_any (by rfl) T.b_len boot_len (pa_cons peW pa_nil)) (re_ix (room64 hr) (re_var 0) re_int)) (nomark _))) (by decide)))))))))
theorem ok_box_of (T : Tx K mg cl) : Good P w K mg base cl 1 (He.ga K "box_of") f_box_of 1 :=
  have sc := sc_box_of
  good_of T.F_box_of sc rfl rfl (fun _ _ _ _ _ _ us hl => match us, hl with | [_], _ => rfl) fun cdv A outer s H E hr =>
    (rss_one (rs_ret (re_tup (ra_cons (re_b1 c_len (pe_callB callr_any (by rfl) T.b_len boot_len (pa_cons peW pa_nil)) (re_ix (room64 hr) (re_var 0) re_int)) (ra_cons (re_b1 c_len (pe_callB callr_any (by rfl) T.b_len boot_len (pa_cons peW pa_nil)) (re_var 0)) ra_nil)))))
theorem ok_are_faces (T : Tx K mg cl) : Good P w K mg base cl 3 (He.ga K "are_faces") f_are_faces 1 :=
  have sc := sc_are_faces
  good_of T.F_are_faces sc rfl rfl (fun _ _ _ _ _ _ us hl => match us, hl with | [_], _ => rfl) fun cdv A outer s H E hr =>
    (rss_cons (rs_if (rt_rw (rw_or (rt_not (rt_of (re_isB (T := "dict") (pe_callB callr_any (by rfl) T.b_isinstance PyProof.Rows.boot_isinstance (pa_cons peW (pa_cons (pe_bltn (by rfl) T.b_dict PyProof.Rows.boot_dict rfl) pa_nil))) (by decide) (re_var 0)))) (rw_or1 (rt_not (rt_chain os_le os_le re_int (re_b1 c_len (pe_callB callr_any (by rfl) T.b_len boot_len (pa_cons peW pa_nil)) (re_var 0)) (re_glob T.g_MOST_STAMPS)))))) (rss_one (rs_ret re_bl)) rss_nil) (rss_cons (rs_for PassesOwn.never rfl (ri_any (re_var 0)) (rg_name 1 sc.nd) (rss_one (rs_if (rt_rw (rw_or (rt_not (rt_of (re_callG (ok_is_name T) (hr.mono (by decide)) T.g_is_name (ra_cons (re_var 1) ra_nil) (al_cons al_nil)))) (rw_or1 (rt_not (rt_of (re_callG (ok_is_face T) (hr.mono (by decide)) T.g_is_face (ra_cons (re_ix (room64 hr) (re_var 0) (re_var 1)) ra_nil) (al_cons al_nil))))))) (rss_one (rs_ret re_bl)) rss_nil))) (rss_cons (rs_set 2 sc.nd (re_frz (rf_lc (own := [("name", 1)]) rfl (by rfl) sc.nd (blkOk_by (by kernel_rfl)) (ri_any (re_var 0)) (fun _ _ _ _ _ => (rg_name 1 sc.nd)) (fun _ _ _ _ _ => rts_nil) (fun _ _ _ _ _ => (re_callG (ok_box_of T) (hr.mono (by decide)) T.g_box_of (ra_cons (re_ix (room64 hr) (re_var 0) (re_var 1)) ra_nil) (al_cons al_nil))) (by decide)))) (rss_one (rs_ret (re_b1 (c_all) (pe_callB callr_any (by rfl) T.b_all PyProof.Rows.boot_all (pa_cons peW pa_nil)) (re_frz (rf_lc (own := [("box", 3)]) rfl (by rfl) sc.nd (blkOk_by (by kernel_rfl)) (ri_any (re_var 2)) (fun _ _ _ _ _ => (rg_name 3 sc.nd)) (fun _ _ _ _ _ => rts_nil) (fun _ _ _ _ _ => (re_cmp (os_eq (room64 hr)) (re_var 3) (re_ix (room64 hr) (re_var 2) re_int) (nomark _))) (by decide)))))))))
theorem ok_Stamps___init__ (T : Tx K mg cl) : Good P w K mg base cl 4 (He.ma K (He.ga K "Stamps") "__init__") f_Stamps___init__ 2 :=
  have sc := sc_Stamps___init__
  good_of T.F_Stamps___init__ sc rfl rfl (fun _ _ _ _ _ _ us hl => match us, hl with | [_, _], _ => rfl) fun cdv A outer s H E hr =>
    (rss_cons (rs_if (rt_not (rt_of (re_callG (ok_are_faces T) (hr.mono (by decide)) T.g_are_faces (ra_cons (re_var 1) ra_nil) (al_cons al_nil)))) (rss_one rs_never) rss_nil) (rss_one (rs_fld T.n_held (re_freeze (re_dcomp (own := [("name", 2)]) rfl (by rfl) sc.nd (blkOk_by (by kernel_rfl)) (ri_any (re_frz (rf_b1 (c_sorted) (pe_callB callr_any (by rfl) T.b_sorted PyProof.Rows.boot_sorted (pa_cons peW pa_nil)) (re_var 1)))) (fun _ _ _ _ _ => (rg_name 2 sc.nd)) (fun _ _ _ _ _ => rts_nil) (fun _ _ _ _ _ => (re_var 2)) (fun _ _ _ _ _ => (re_ix (room64 hr) (re_var 1) (re_var 2))) (by decide))) (re_var 0))))
theorem ok_good_or_wrong (T : Tx K mg cl) : Good P w K mg base cl 1 (He.ga K "good_or_wrong") f_good_or_wrong 2 :=
  have sc := sc_good_or_wrong
  good_of T.F_good_or_wrong sc rfl rfl (fun _ _ _ _ _ _ us hl => match us, hl with | [_, _], _ => rfl) fun cdv A outer s H E hr =>
    (rss_one (rs_if (rt_not (rt_of (re_var 1))) (rss_one rs_never) rss_nil))
theorem ok_Book___init__ (T : Tx K mg cl) : Good P w K mg base cl 2 (He.ma K (He.ga K "Book") "__init__") f_Book___init__ 2 :=
  have sc := sc_Book___init__
  good_of T.F_Book___init__ sc rfl rfl (fun _ _ _ _ _ _ us hl => match us, hl with | [_, _], _ => rfl) fun cdv A outer s H E hr =>
    (rss_cons (rs_expr (re_callG (ok_good_or_wrong T) (hr.mono (by decide)) T.g_good_or_wrong (ra_cons re_int (ra_cons (re_isC T.cl_Stamps T.ic_Stamps (pe_callB callr_any (by rfl) T.b_isinstance PyProof.Rows.boot_isinstance (pa_cons peW (pa_cons (pe_glob (by rfl) T.C_Stamps rfl) pa_nil))) (re_var 1)) ra_nil)) (al_cons (al_cons al_nil)))) (rss_cons (rs_fld T.n_begun (re_var 1) (re_var 0)) (rss_cons (rs_fld T.n_deeds (re_frz (rf_lst ra_nil)) (re_var 0)) (rss_cons (rs_fld T.n_stood (re_frz (rf_lst (ra_cons (re_var 1) ra_nil))) (re_var 0)) (rss_cons (rs_fld T.n_past (re_own (rf_lst ra_nil)) (re_var 0)) (rss_one (rs_fld T.n_undone_rows (re_own (rf_lst ra_nil)) (re_var 0))))))))
theorem ok_Book_copied (T : Tx K mg cl) : Good P w K mg base cl 4 (He.ma K (He.ga K "Book") "copied") f_Book_copied 1 :=
  have sc := sc_Book_copied
  good_of T.F_Book_copied sc rfl rfl (fun _ _ _ _ _ _ us hl => match us, hl with | [_], _ => rfl) fun cdv A outer s H E hr =>
    (rss_cons (rs_set 1 sc.nd (re_makeG T.cl_Book T.mk_Book (ok_Book___init__ T) (hr.mono (by decide)) T.C_Book (ra_cons (re_fld T.n_begun (re_var 0)) ra_nil) (al_cons al_nil))) (rss_cons (rs_fld T.n_deeds (re_frz (rf_b1 (c_list) (pe_callTy callr_any (by rfl) T.b_list PyProof.Rows.boot_list (pa_cons peW pa_nil)) (re_fld T.n_deeds (re_var 0)))) (re_var 1)) (rss_cons (rs_fld T.n_stood (re_frz (rf_b1 (c_list) (pe_callTy callr_any (by rfl) T.b_list PyProof.Rows.boot_list (pa_cons peW pa_nil)) (re_fld T.n_stood (re_var 0)))) (re_var 1)) (rss_cons (rs_fld T.n_past (re_own (rf_b1 (c_list) (pe_callTy callr_any (by rfl) T.b_list PyProof.Rows.boot_list (pa_cons peW pa_nil)) (re_fld T.n_past (re_var 0)))) (re_var 1)) (rss_cons (rs_fld T.n_undone_rows (re_own (rf_b1 (c_list) (pe_callTy callr_any (by rfl) T.b_list PyProof.Rows.boot_list (pa_cons peW pa_nil)) (re_fld T.n_undone_rows (re_var 0)))) (re_var 1)) (rss_one (rs_ret (re_var 1))))))))
theorem ok_Book_length (T : Tx K mg cl) : Good P w K mg base cl 1 (He.ma K (He.ga K "Book") "length") f_Book_length 1 :=
  have sc := sc_Book_length
  good_of T.F_Book_length sc rfl rfl (fun _ _ _ _ _ _ us hl => match us, hl with | [_], _ => rfl) fun cdv A outer s H E hr =>
    (rss_one (rs_ret (re_b1 c_len (pe_callB callr_any (by rfl) T.b_len boot_len (pa_cons peW pa_nil)) (re_fld T.n_deeds (re_var 0)))))
theorem ok_is_hand_turning (T : Tx K mg cl) : Good P w K mg base cl 1 (He.ga K "is_hand_turning") f_is_hand_turning 1 :=
  have sc := sc_is_hand_turning
  good_of T.F_is_hand_turning sc rfl rfl (fun _ _ _ _ _ _ us hl => match us, hl with | [_], _ => rfl) fun cdv A outer s H E hr =>
    (rss_one (rs_ret (re_and (re_isB (T := "str") (pe_callB callr_any (by rfl) T.b_isinstance PyProof.Rows.boot_isinstance (pa_cons peW (pa_cons (pe_bltn (by rfl) T.b_str PyProof.Rows.boot_str rfl) pa_nil))) (by decide) (re_var 0)) (re_one (re_cmp (os_in (room65 hr)) (re_var 0) (re_glob T.g_HAND_TURNINGS) (by rfl))))))
theorem ok_is_deed (T : Tx K mg cl) : Good P w K mg base cl 3 (He.ga K "is_deed") f_is_deed 1 :=
  have sc := sc_is_deed
  good_of T.F_is_deed sc rfl rfl (fun _ _ _ _ _ _ us hl => match us, hl with | [_], _ => rfl) fun cdv A outer s H E hr =>
    (rss_cons (rs_if (rt_rw (rw_or (rt_not (rt_of (re_isB (T := "tuple") (pe_callB callr_any (by rfl) T.b_isinstance PyProof.Rows.boot_isinstance (pa_cons peW (pa_cons (pe_bltn (by rfl) T.b_tuple PyProof.Rows.boot_tuple rfl) pa_nil))) (by decide) (re_var 0)))) (rw_or (rt_not (rt_chain os_le os_le re_int (re_b1 c_len (pe_callB callr_any (by rfl) T.b_len boot_len (pa_cons peW pa_nil)) (re_var 0)) re_int)) (rw_or1 (rt_not (rt_of (re_isB (T := "str") (pe_callB callr_any (by rfl) T.b_isinstance PyProof.Rows.boot_isinstance (pa_cons peW (pa_cons (pe_bltn (by rfl) T.b_str PyProof.Rows.boot_str rfl) pa_nil))) (by decide) (re_ix (room64 hr) (re_var 0) re_int)))))))) (rss_one (rs_ret re_bl)) rss_nil) (rss_cons (rs_if (rt_not (rt_of (re_callG (ok_is_name T) (hr.mono (by decide)) T.g_is_name (ra_cons (re_ix (room64 hr) (re_var 0) re_int) ra_nil) (al_cons al_nil)))) (rss_one (rs_ret re_bl)) rss_nil) (rss_cons (rs_if (rt_cmp (os_eq (room64 hr)) (re_b1 c_len (pe_callB callr_any (by rfl) T.b_len boot_len (pa_cons peW pa_nil)) (re_var 0)) re_int (nomark _)) (rss_one (rs_ret (re_cmp (os_eq (room64 hr)) (re_ix (room64 hr) (re_var 0) re_int) re_str (nomark _)))) rss_nil) (rss_cons (rs_if (rt_cmp (os_eq (room64 hr)) (re_ix (room64 hr) (re_var 0) re_int) re_str (nomark _)) (rss_one (rs_ret (re_and (re_callG (ok_is_name T) (hr.mono (by decide)) T.g_is_name (ra_cons (re_ix (room64 hr) (re_var 0) re_int) ra_nil) (al_cons al_nil)) (re_one (re_cmp (os_ne (room64 hr)) (re_ix (room64 hr) (re_var 0) re_int) (re_ix (room64 hr) (re_var 0) re_int) (nomark _)))))) rss_nil) (rss_cons (rs_if (rt_cmp (os_eq (room64 hr)) (re_ix (room64 hr) (re_var 0) re_int) re_str (nomark _)) (rss_one (rs_ret (re_callG (ok_is_hand_turning T) (hr.mono (by decide)) T.g_is_hand_turning (ra_cons (re_ix (room64 hr) (re_var 0) re_int) ra_nil) (al_cons al_nil)))) rss_nil) (rss_one (rs_ret (re_and (re_cmp (os_eq (room64 hr)) (re_ix (room64 hr) (re_var 0) re_int) re_str (nomark _)) (re_one (re_callG (ok_is_face T) (hr.mono (by decide)) T.g_is_face (ra_cons (re_ix (room64 hr) (re_var 0) re_int) ra_nil) (al_cons al_nil)))))))))))
theorem ok_names_in (T : Tx K mg cl) : Good P w K mg base cl 1 (He.ga K "names_in") f_names_in 1 :=
  have sc := sc_names_in
  good_of T.F_names_in sc rfl rfl (fun _ _ _ _ _ _ us hl => match us, hl with | [_], _ => rfl) fun cdv A outer s H E hr =>
    (rss_cons (rs_if (rt_cmp (os_eq (room64 hr)) (re_ix (room64 hr) (re_var 0) re_int) re_str (nomark _)) (rss_one (rs_ret (re_frz (rf_lst (ra_cons (re_ix (room64 hr) (re_var 0) re_int) (ra_cons (re_ix (room64 hr) (re_var 0) re_int) ra_nil)))))) rss_nil) (rss_one (rs_ret (re_frz (rf_lst (ra_cons (re_ix (room64 hr) (re_var 0) re_int) ra_nil))))))
theorem ok_Stamps_names (T : Tx K mg cl) : Good P w K mg base cl 1 (He.ma K (He.ga K "Stamps") "names") f_Stamps_names 1 :=
  have sc := sc_Stamps_names
  good_of T.F_Stamps_names sc rfl rfl (fun _ _ _ _ _ _ us hl => match us, hl with | [_], _ => rfl) fun cdv A outer s H E hr =>
    (rss_one (rs_ret (re_frz (rf_b1 (c_list) (pe_callTy callr_any (by rfl) T.b_list PyProof.Rows.boot_list (pa_cons peW pa_nil)) (re_fld T.n_held (re_var 0))))))
theorem ok_Stamps_box (T : Tx K mg cl) : Good P w K mg base cl 2 (He.ma K (He.ga K "Stamps") "box") f_Stamps_box 1 :=
  have sc := sc_Stamps_box
  good_of T.F_Stamps_box sc rfl rfl (fun _ _ _ _ _ _ us hl => match us, hl with | [_], _ => rfl) fun cdv A outer s H E hr =>
    (rss_one (rs_ret (re_callG (ok_box_of T) (hr.mono (by decide)) T.g_box_of (ra_cons (re_ix (room64 hr) (re_fld T.n_held (re_var 0)) (re_ix (room64 hr) (re_meth0 (methT T.cl_Stamps T.k_Stamps T.m_Stamps_names ((ok_Stamps_names T))) (fun c hm F b => pe_meth0 peW c hm F (hr.mono (by decide)) b .nil pass0) (re_var 0)) re_int)) ra_nil) (al_cons al_nil))))
theorem ok_quarters (T : Tx K mg cl) : Good P w K mg base cl 1 (He.ga K "quarters") f_quarters 1 :=
  have sc := sc_quarters
  good_of T.F_quarters sc rfl rfl (fun _ _ _ _ _ _ us hl => match us, hl with | [_], _ => rfl) fun cdv A outer s H E hr =>
    (rss_one (rs_ret (re_bin os_mod (re_tindex T.t_TURNINGS (pe_bm PySem.F.plainAttrs_tuple PySem.F.slot_tuple_index PySem.F.type_tuple_index mtr_any (pe_glob (by rfl) T.t_TURNINGS.at_ rfl) (pa_cons peW pa_nil)) (re_var 0)) (re_glob T.g_QUARTERS))))
theorem ok_has_turning (T : Tx K mg cl) : Good P w K mg base cl 2 (He.ga K "has_turning") f_has_turning 2 :=
  have sc := sc_has_turning
  good_of T.F_has_turning sc rfl rfl (fun _ _ _ _ _ _ us hl => match us, hl with | [_, _], _ => rfl) fun cdv A outer s H E hr =>
    (rss_one (rs_ret (re_or (re_cmp (os_eq (room64 hr)) (re_ix (room64 hr) (re_var 0) re_int) (re_ix (room64 hr) (re_var 0) re_int) (nomark _)) (re_one (re_cmp (os_eq (room64 hr)) (re_bin os_mod (re_callG (ok_quarters T) (hr.mono (by decide)) T.g_quarters (ra_cons (re_var 1) ra_nil) (al_cons al_nil)) re_int) re_int (nomark _))))))
theorem ok_Stamps_need_deed (T : Tx K mg cl) : Good P w K mg base cl 3 (He.ma K (He.ga K "Stamps") "need_deed") f_Stamps_need_deed 2 :=
  have sc := sc_Stamps_need_deed
  good_of T.F_Stamps_need_deed sc rfl rfl (fun _ _ _ _ _ _ us hl => match us, hl with | [_, _], _ => rfl) fun cdv A outer s H E hr =>
    (rss_cons (rs_for PassesOwn.never rfl (ri_any (re_callG (ok_names_in T) (hr.mono (by decide)) T.g_names_in (ra_cons (re_var 1) ra_nil) (al_cons al_nil))) (rg_name 2 sc.nd) (rss_one (rs_if (rt_cmp (os_notIn (room65 hr)) (re_var 2) (re_fld T.n_held (re_var 0)) (by rfl)) (rss_one rs_never) rss_nil))) (rss_cons (rs_if (rt_rw (rw_and (rt_cmp (os_eq (room64 hr)) (re_ix (room64 hr) (re_var 1) re_int) re_str (nomark _)) (rw_and1 (rt_not (rt_of (re_callG (ok_has_turning T) (hr.mono (by decide)) T.g_has_turning (ra_cons (re_meth0 (methT T.cl_Stamps T.k_Stamps T.m_Stamps_box ((ok_Stamps_box T))) (fun c hm F b => pe_meth0 peW c hm F (hr.mono (by decide)) b .nil pass0) (re_var 0)) (ra_cons (re_ix (room64 hr) (re_var 1) re_int) ra_nil)) (al_cons (al_cons al_nil)))))))) (rss_one rs_never) rss_nil) (rss_one (rs_if (rt_rw (rw_and (rt_cmp (os_eq (room64 hr)) (re_ix (room64 hr) (re_var 1) re_int) re_str (nomark _)) (rw_and1 (rt_cmp (os_ne (room64 hr)) (re_callG (ok_box_of T) (hr.mono (by decide)) T.g_box_of (ra_cons (re_ix (room64 hr) (re_var 1) re_int) ra_nil) (al_cons al_nil)) (re_meth0 (methT T.cl_Stamps T.k_Stamps T.m_Stamps_box ((ok_Stamps_box T))) (fun c hm F b => pe_meth0 peW c hm F (hr.mono (by decide)) b .nil pass0) (re_var 0)) (nomark _))))) (rss_one rs_never) rss_nil))))
theorem ok_mirrored (T : Tx K mg cl) : Good P w K mg base cl 1 (He.ga K "mirrored") f_mirrored 1 :=
  have sc := sc_mirrored
  good_of T.F_mirrored sc rfl rfl (fun _ _ _ _ _ _ us hl => match us, hl with | [_], _ => rfl) fun cdv A outer s H E hr =>
    (rss_one (rs_ret (re_b1 c_tuple (pe_callTy callr_any (by rfl) T.b_tuple PyProof.Rows.boot_tuple (pa_cons peW pa_nil)) (re_frz (rf_lc (own := [("row", 1)]) rfl (by rfl) sc.nd (blkOk_by (by kernel_rfl)) (ri_any (re_var 0)) (fun _ _ _ _ _ => (rg_name 1 sc.nd)) (fun _ _ _ _ _ => rts_nil) (fun _ _ _ _ _ => (re_rv (re_var 1))) (by decide))))))
theorem ok_laid_sign (T : Tx K mg cl) : Good P w K mg base cl 1 (He.ga K "laid_sign") f_laid_sign 2 :=
  have sc := sc_laid_sign
  good_of T.F_laid_sign sc rfl rfl (fun _ _ _ _ _ _ us hl => match us, hl with | [_, _], _ => rfl) fun cdv A outer s H E hr =>
    (rss_cons (rs_if (rt_cmp (os_eq (room64 hr)) (re_var 0) (re_var 1) (nomark _)) (rss_one (rs_ret (re_glob T.g_FLAT))) rss_nil) (rss_one (rs_ret (re_glob T.g_UP))))
theorem ok_laid_two (T : Tx K mg cl) : Good P w K mg base cl 2 (He.ga K "laid_two") f_laid_two 2 :=
  have sc := sc_laid_two
  good_of T.F_laid_two sc rfl rfl (fun _ _ _ _ _ _ us hl => match us, hl with | [_, _], _ => rfl) fun cdv A outer s H E hr =>
    (rss_cons (rs_set 2 sc.nd (re_own (rf_lst ra_nil))) (rss_cons (rs_for PassesOwn.never rfl (ri_zip T.b_zip (re_var 0) (re_var 1)) (rg_tup (rgs_cons (rg_name 3 sc.nd) (rgs_cons (rg_name 4 sc.nd) rgs_nil)) (gl_cons (gl_cons gl_nil))) (rss_one (rs_expr (re_mut m_append (pe_bm PySem.F.plainAttrs_list PySem.F.slot_list_append PySem.F.type_list_append mtr_any peW paW) (re_var 2) (ra_cons (re_join (pe_m1 PySem.F.slot_str_join PySem.F.type_str_join mtr_any peW peW) re_str (re_frz (rf_lc (own := [("a", 5), ("b", 6)]) rfl (by rfl) sc.nd (blkOk_by (by kernel_rfl)) (ri_zip T.b_zip (re_var 3) (re_var 4)) (fun _ _ _ _ _ => (rg_tup (rgs_cons (rg_name 5 sc.nd) (rgs_cons (rg_name 6 sc.nd) rgs_nil)) (gl_cons (gl_cons gl_nil)))) (fun _ _ _ _ _ => rts_nil) (fun _ _ _ _ _ => (re_callG (ok_laid_sign T) (hr.mono (by decide)) T.g_laid_sign (ra_cons (re_var 5) (ra_cons (re_var 6) ra_nil)) (al_cons (al_cons al_nil)))) (by decide)))) ra_nil))))) (rss_one (rs_ret (re_b1 c_tuple (pe_callTy callr_any (by rfl) T.b_tuple PyProof.Rows.boot_tuple (pa_cons peW pa_nil)) (re_var 2))))))
theorem ok_exchanges (T : Tx K mg cl) : Good P w K mg base cl 1 (He.ga K "exchanges") f_exchanges 1 :=
  have sc := sc_exchanges
  good_of T.F_exchanges sc rfl rfl (fun _ _ _ _ _ _ us hl => match us, hl with | [_], _ => rfl) fun cdv A outer s H E hr =>
    (rss_one (rs_ret (re_cmp (os_eq (room64 hr)) (re_ix (room64 hr) (re_var 0) re_int) re_str (nomark _))))
theorem ok_quarter_turned (T : Tx K mg cl) : Good P w K mg base cl 1 (He.ga K "quarter_turned") f_quarter_turned 1 :=
  have sc := sc_quarter_turned
  good_of T.F_quarter_turned sc rfl rfl (fun _ _ _ _ _ _ us hl => match us, hl with | [_], _ => rfl) fun cdv A outer s H E hr =>
    (rss_one (rs_ret (re_b1 c_tuple (pe_callTy callr_any (by rfl) T.b_tuple PyProof.Rows.boot_tuple (pa_cons peW pa_nil)) (re_frz (rf_lc (own := [("x", 1)]) rfl (by rfl) sc.nd (blkOk_by (by kernel_rfl)) (ri_range1 T.b_range (re_b1 c_len (pe_callB callr_any (by rfl) T.b_len boot_len (pa_cons peW pa_nil)) (re_ix (room64 hr) (re_var 0) re_int))) (fun _ _ _ _ _ => (rg_name 1 sc.nd)) (fun _ _ _ _ _ => rts_nil) (fun _ _ _ _ _ => (re_join (pe_m1 PySem.F.slot_str_join PySem.F.type_str_join mtr_any peW peW) re_str (re_frz (rf_lc (own := [("row", 2)]) rfl (by rfl) sc.nd (blkOk_by (by kernel_rfl)) (ri_any (re_rv (re_var 0))) (fun _ _ _ _ _ => (rg_name 2 sc.nd)) (fun _ _ _ _ _ => rts_nil) (fun _ _ _ _ _ => (re_ix (room64 hr) (re_var 2) (re_var 1))) (by decide))))) (by decide))))))
theorem ok_turned (T : Tx K mg cl) : Good P w K mg base cl 2 (He.ga K "turned") f_turned 2 :=
  have sc := sc_turned
  good_of T.F_turned sc rfl rfl (fun _ _ _ _ _ _ us hl => match us, hl with | [_, _], _ => rfl) fun cdv A outer s H E hr =>
    (rss_cons (rs_if (rt_of (re_callG (ok_exchanges T) (hr.mono (by decide)) T.g_exchanges (ra_cons (re_var 1) ra_nil) (al_cons al_nil))) (rss_one (rs_set 0 sc.nd (re_callG (ok_mirrored T) (hr.mono (by decide)) T.g_mirrored (ra_cons (re_var 0) ra_nil) (al_cons al_nil)))) rss_nil) (rss_cons (rs_for PassesOwn.never rfl (ri_range1 T.b_range (re_callG (ok_quarters T) (hr.mono (by decide)) T.g_quarters (ra_cons (re_var 1) ra_nil) (al_cons al_nil))) (rg_name 2 sc.nd) (rss_one (rs_set 0 sc.nd (re_callG (ok_quarter_turned T) (hr.mono (by decide)) T.g_quarter_turned (ra_cons (re_var 0) ra_nil) (al_cons al_nil))))) (rss_one (rs_ret (re_var 0)))))
theorem ok_Stamps_face_behind (T : Tx K mg cl) : Good P w K mg base cl 3 (He.ma K (He.ga K "Stamps") "face_behind") f_Stamps_face_behind 2 :=
  have sc := sc_Stamps_face_behind
  good_of T.F_Stamps_face_behind sc rfl rfl (fun _ _ _ _ _ _ us hl => match us, hl with | [_, _], _ => rfl) fun cdv A outer s H E hr =>
    (rss_cons (rs_if (rt_cmp (os_eq (room64 hr)) (re_ix (room64 hr) (re_var 1) re_int) re_str (nomark _)) (rss_one (rs_ret (re_callG (ok_laid_two T) (hr.mono (by decide)) T.g_laid_two (ra_cons (re_ix (room64 hr) (re_fld T.n_held (re_var 0)) (re_ix (room64 hr) (re_var 1) re_int)) (ra_cons (re_callG (ok_mirrored T) (hr.mono (by decide)) T.g_mirrored (ra_cons (re_ix (room64 hr) (re_fld T.n_held (re_var 0)) (re_ix (room64 hr) (re_var 1) re_int)) ra_nil) (al_cons al_nil)) ra_nil)) (al_cons (al_cons al_nil))))) rss_nil) (rss_cons (rs_if (rt_cmp (os_eq (room64 hr)) (re_ix (room64 hr) (re_var 1) re_int) re_str (nomark _)) (rss_one (rs_ret (re_callG (ok_turned T) (hr.mono (by decide)) T.g_turned (ra_cons (re_ix (room64 hr) (re_fld T.n_held (re_var 0)) (re_ix (room64 hr) (re_var 1) re_int)) (ra_cons (re_ix (room64 hr) (re_var 1) re_int) ra_nil)) (al_cons (al_cons al_nil))))) rss_nil) (rss_cons (rs_if (rt_cmp (os_eq (room64 hr)) (re_ix (room64 hr) (re_var 1) re_int) re_str (nomark _)) (rss_one (rs_ret (re_ix (room64 hr) (re_var 1) re_int))) rss_nil) (rss_one (rs_ret (re_ix (room64 hr) (re_fld T.n_held (re_var 0)) (re_ix (room64 hr) (re_var 1) re_int)))))))
theorem ok_Stamps_done (T : Tx K mg cl) : Good P w K mg base cl 6 (He.ma K (He.ga K "Stamps") "done") f_Stamps_done 2 :=
  have sc := sc_Stamps_done
  good_of T.F_Stamps_done sc rfl rfl (fun _ _ _ _ _ _ us hl => match us, hl with | [_, _], _ => rfl) fun cdv A outer s H E hr =>
    (rss_cons (rs_if (rt_not (rt_of (re_callG (ok_is_deed T) (hr.mono (by decide)) T.g_is_deed (ra_cons (re_var 1) ra_nil) (al_cons al_nil)))) (rss_one rs_never) rss_nil) (rss_cons (rs_expr (re_meth (methT T.cl_Stamps T.k_Stamps T.m_Stamps_need_deed ((ok_Stamps_need_deed T))) (fun c hm F b => pe_meth peW c hm F (hr.mono (by decide)) b .nil pass0 paW) (re_var 0) (ra_cons (re_var 1) ra_nil) (al_cons al_nil))) (rss_cons (rs_set 2 sc.nd (re_ownD (rd_dict (pe_callTy callr_any (by rfl) T.b_dict PyProof.Rows.boot_dict (pa_cons peW pa_nil)) (re_fld T.n_held (re_var 0))))) (rss_cons (rs_subD (room64 hr) (re_meth (methT T.cl_Stamps T.k_Stamps T.m_Stamps_face_behind ((ok_Stamps_face_behind T))) (fun c hm F b => pe_meth peW c hm F (hr.mono (by decide)) b .nil pass0 paW) (re_var 0) (ra_cons (re_var 1) ra_nil) (al_cons al_nil)) (re_var 2) (re_ix (room64 hr) (re_callG (ok_names_in T) (hr.mono (by decide)) T.g_names_in (ra_cons (re_var 1) ra_nil) (al_cons al_nil)) (re_neg re_int))) (rss_frz (i := 2) (rss_one (rs_ret (re_trimF (re_makeG T.cl_Stamps T.mk_Stamps (ok_Stamps___init__ T) (hr.mono (by decide)) T.C_Stamps (ra_cons (re_var 2) ra_nil) (al_cons al_nil))))))))))
theorem ok_done_at (T : Tx K mg cl) : Good P w K mg base cl 7 (He.ga K "done_at") f_done_at 3 :=
  have sc := sc_done_at
  good_of T.F_done_at sc rfl rfl (fun _ _ _ _ _ _ us hl => match us, hl with | [_, _, _], _ => rfl) fun cdv A outer s H E hr =>
    (rss_one (rs_try (rss_one (rs_ret (re_meth (methT T.cl_Stamps T.k_Stamps T.m_Stamps_done ((ok_Stamps_done T))) (fun c hm F b => pe_meth peW c hm F (hr.mono (by decide)) b .nil pass0 paW) (re_var 0) (ra_cons (re_var 2) ra_nil) (al_cons al_nil))))))
theorem ok_standings_behind (T : Tx K mg cl) : Good P w K mg base cl 8 (He.ga K "standings_behind") f_standings_behind 2 :=
  have sc := sc_standings_behind
  good_of T.F_standings_behind sc rfl rfl (fun _ _ _ _ _ _ us hl => match us, hl with | [_, _], _ => rfl) fun cdv A outer s H E hr =>
    (rss_cons (rs_set 2 sc.nd (re_own (rf_lst (ra_cons (re_var 0) ra_nil)))) (rss_cons (rs_for PassesOwn.never rfl (ri_enum T.b_enumerate (re_var 1)) (rg_tup (rgs_cons (rg_name 3 sc.nd) (rgs_cons (rg_name 4 sc.nd) rgs_nil)) (gl_cons (gl_cons gl_nil))) (rss_one (rs_expr (re_mut m_append (pe_bm PySem.F.plainAttrs_list PySem.F.slot_list_append PySem.F.type_list_append mtr_any peW paW) (re_var 2) (ra_cons (re_callG (ok_done_at T) (hr.mono (by decide)) T.g_done_at (ra_cons (re_ix (room64 hr) (re_var 2) (re_neg re_int)) (ra_cons (re_var 3) (ra_cons (re_var 4) ra_nil))) (al_cons (al_cons (al_cons al_nil)))) ra_nil))))) (rss_one (rs_ret (re_freeze (re_var 2))))))
theorem ok_Book_stood_by (T : Tx K mg cl) : Good P w K mg base cl 9 (He.ma K (He.ga K "Book") "stood_by") f_Book_stood_by 2 :=
  have sc := sc_Book_stood_by
  good_of T.F_Book_stood_by sc rfl rfl (fun _ _ _ _ _ _ us hl => match us, hl with | [_, _], _ => rfl) fun cdv A outer s H E hr =>
    (rss_cons (rs_set 2 sc.nd re_int) (rss_cons (rs_while 100000 PassesOwn.never (rt_rw (rw_and (rt_cmp os_lt (re_var 2) (re_b2 (c_min) (pe_callB callr_any (by rfl) T.b_min PyProof.Rows.boot_min (pa_cons peW (pa_cons peW pa_nil))) (re_b1 c_len (pe_callB callr_any (by rfl) T.b_len boot_len (pa_cons peW pa_nil)) (re_var 1)) (re_meth0 (methT T.cl_Book T.k_Book T.m_Book_length ((ok_Book_length T))) (fun c hm F b => pe_meth0 peW c hm F (hr.mono (by decide)) b .nil pass0) (re_var 0))) (nomark _)) (rw_and1 (rt_cmp (os_eq (room64 hr)) (re_ix (room64 hr) (re_var 1) (re_var 2)) (re_ix (room64 hr) (re_fld T.n_deeds (re_var 0)) (re_var 2)) (nomark _))))) (rss_one (rs_set 2 sc.nd (re_bin os_add (re_var 2) re_int)))) (rss_one (rs_ret (re_bin os_add (re_sl (re_fld T.n_stood (re_var 0)) ro_none (ro_some (re_var 2))) (re_callG (ok_standings_behind T) (hr.mono (by decide)) T.g_standings_behind (ra_cons (re_ix (room64 hr) (re_fld T.n_stood (re_var 0)) (re_var 2)) (ra_cons (re_sl (re_var 1) (ro_some (re_var 2)) ro_none) ra_nil)) (al_cons (al_cons al_nil))))))))
theorem ok_Stamps_faces (T : Tx K mg cl) : Good P w K mg base cl 1 (He.ma K (He.ga K "Stamps") "faces") f_Stamps_faces 1 :=
  have sc := sc_Stamps_faces
  good_of T.F_Stamps_faces sc rfl rfl (fun _ _ _ _ _ _ us hl => match us, hl with | [_], _ => rfl) fun cdv A outer s H E hr =>
    (rss_one (rs_ret (re_frzD (rd_dict (pe_callTy callr_any (by rfl) T.b_dict PyProof.Rows.boot_dict (pa_cons peW pa_nil)) (re_fld T.n_held (re_var 0))))))
theorem ok_otherwise (T : Tx K mg cl) : Good P w K mg base cl 2 (He.ga K "otherwise") f_otherwise 2 :=
  have sc := sc_otherwise
  good_of T.F_otherwise sc rfl rfl (fun _ _ _ _ _ _ us hl => match us, hl with | [_, _], _ => rfl) fun cdv A outer s H E hr =>
    (rss_cons (rs_set 2 sc.nd (re_own (rf_lst ra_nil))) (rss_cons (rs_for PassesOwn.never rfl (ri_ez T.b_enumerate T.b_zip (re_var 0) (re_var 1)) (rg_tup (rgs_cons (rg_name 3 sc.nd) (rgs_cons (rg_tup (rgs_cons (rg_name 4 sc.nd) (rgs_cons (rg_name 5 sc.nd) rgs_nil)) (gl_cons (gl_cons gl_nil))) rgs_nil)) (gl_cons (gl_cons gl_nil))) (rss_cons (rs_asg (re_tup (ra_cons (re_meth0 (methT T.cl_Stamps T.k_Stamps T.m_Stamps_faces ((ok_Stamps_faces T))) (fun c hm F b => pe_meth0 peW c hm F (hr.mono (by decide)) b .nil pass0) (re_var 4)) (ra_cons (re_meth0 (methT T.cl_Stamps T.k_Stamps T.m_Stamps_faces ((ok_Stamps_faces T))) (fun c hm F b => pe_meth0 peW c hm F (hr.mono (by decide)) b .nil pass0) (re_var 5)) ra_nil))) (rg_tup (rgs_cons (rg_name 6 sc.nd) (rgs_cons (rg_name 7 sc.nd) rgs_nil)) (gl_cons (gl_cons gl_nil)))) (rss_one (rs_expr (re_mut m_extend (pe_bm PySem.F.plainAttrs_list PySem.F.slot_list_extend PySem.F.type_list_extend mtr_any peW paW) (re_var 2) (ra_cons (re_frz (rf_lc (own := [("name", 8)]) rfl (by rfl) sc.nd (blkOk_by (by kernel_rfl)) (ri_any (re_var 6)) (fun _ _ _ _ _ => (rg_name 8 sc.nd)) (fun _ _ _ _ _ => (rts_one (rt_cmp (os_ne (room64 hr)) (re_ix (room64 hr) (re_var 6) (re_var 8)) (re_ix (room64 hr) (re_var 7) (re_var 8)) (nomark _)))) (fun _ _ _ _ _ => (re_tup (ra_cons (re_var 3) (ra_cons (re_var 8) ra_nil)))) (by decide))) ra_nil)))))) (rss_one (rs_ret (re_var 2)))))
theorem ok_Book_become (T : Tx K mg cl) : Good P w K mg base cl 10 (He.ma K (He.ga K "Book") "become") f_Book_become 2 :=
  have sc := sc_Book_become
  good_of T.F_Book_become sc rfl rfl (fun _ _ _ _ _ _ us hl => match us, hl with | [_, _], _ => rfl) fun cdv A outer s H E hr =>
    (rss_cons (rs_set 2 sc.nd (re_meth (methT T.cl_Book T.k_Book T.m_Book_stood_by ((ok_Book_stood_by T))) (fun c hm F b => pe_meth peW c hm F (hr.mono (by decide)) b .nil pass0 paW) (re_var 0) (ra_cons (re_var 1) ra_nil) (al_cons al_nil))) (rss_cons (rs_set 3 sc.nd (re_callG (ok_otherwise T) (hr.mono (by decide)) T.g_otherwise (ra_cons (re_fld T.n_stood (re_var 0)) (ra_cons (re_var 2) ra_nil)) (al_cons (al_cons al_nil)))) (rss_cons (rs_fld T.n_deeds (re_var 1) (re_var 0)) (rss_cons (rs_fld T.n_stood (re_var 2) (re_var 0)) (rss_one (rs_ret (re_var 3)))))))
theorem ok_Book_back (T : Tx K mg cl) : Good P w K mg base cl 11 (He.ma K (He.ga K "Book") "back") f_Book_back 1 :=
  have sc := sc_Book_back
  good_of T.F_Book_back sc rfl rfl (fun _ _ _ _ _ _ us hl => match us, hl with | [_], _ => rfl) fun cdv A outer s H E hr =>
    (rss_cons (rs_if (rt_cmp (os_eq (room64 hr)) (re_fld T.n_past (re_var 0)) (re_frz (rf_lst ra_nil)) (nomark _)) (rss_one rs_never) rss_nil) (rss_cons (rs_expr (re_mut m_append (pe_bm PySem.F.plainAttrs_list PySem.F.slot_list_append PySem.F.type_list_append mtr_any peW paW) (re_fld T.n_undone_rows (re_var 0)) (ra_cons (re_fld T.n_deeds (re_var 0)) ra_nil))) (rss_one (rs_ret (re_meth (methT T.cl_Book T.k_Book T.m_Book_become ((ok_Book_become T))) (fun c hm F b => pe_meth peW c hm F (hr.mono (by decide)) b .nil pass0 paW) (re_var 0) (ra_cons (re_mut0 m_pop (pe_bm0 PySem.F.plainAttrs_list PySem.F.slot_list_pop PySem.F.type_list_pop mtr_any peW) (re_fld T.n_past (re_var 0))) ra_nil) (al_cons al_nil))))))
theorem ok_Book_again (T : Tx K mg cl) : Good P w K mg base cl 11 (He.ma K (He.ga K "Book") "again") f_Book_again 1 :=
  have sc := sc_Book_again
  good_of T.F_Book_again sc rfl rfl (fun _ _ _ _ _ _ us hl => match us, hl with | [_], _ => rfl) fun cdv A outer s H E hr =>
    (rss_cons (rs_if (rt_cmp (os_eq (room64 hr)) (re_fld T.n_undone_rows (re_var 0)) (re_frz (rf_lst ra_nil)) (nomark _)) (rss_one rs_never) rss_nil) (rss_cons (rs_expr (re_mut m_append (pe_bm PySem.F.plainAttrs_list PySem.F.slot_list_append PySem.F.type_list_append mtr_any peW paW) (re_fld T.n_past (re_var 0)) (ra_cons (re_fld T.n_deeds (re_var 0)) ra_nil))) (rss_one (rs_ret (re_meth (methT T.cl_Book T.k_Book T.m_Book_become ((ok_Book_become T))) (fun c hm F b => pe_meth peW c hm F (hr.mono (by decide)) b .nil pass0 paW) (re_var 0) (ra_cons (re_mut0 m_pop (pe_bm0 PySem.F.plainAttrs_list PySem.F.slot_list_pop PySem.F.type_list_pop mtr_any peW) (re_fld T.n_undone_rows (re_var 0))) ra_nil) (al_cons al_nil))))))
theorem ok__law_deed (T : Tx K mg cl) : Good P w K mg base cl 3 (He.ga K "_law_deed") f__law_deed 3 :=
  have sc := sc__law_deed
  good_of T.F__law_deed sc rfl rfl (fun _ _ _ _ _ _ us hl => match us, hl with | [_, _, _], _ => rfl) fun cdv A outer s H E hr =>
    (rss_cons (rs_set 3 sc.nd (re_ix (room64 hr) (re_var 2) (re_callG (ok__law_take T) (hr.mono (by decide)) T.g__law_take (ra_cons (re_var 0) (ra_cons (re_b1 c_len (pe_callB callr_any (by rfl) T.b_len boot_len (pa_cons peW pa_nil)) (re_var 2)) ra_nil)) (al_cons (al_cons al_nil))))) (rss_cons (rs_set 4 sc.nd (re_callG (ok__law_take T) (hr.mono (by decide)) T.g__law_take (ra_cons (re_var 0) (ra_cons re_int ra_nil)) (al_cons (al_cons al_nil)))) (rss_cons (rs_if (rt_rw (rw_and (rt_cmp os_lt (re_var 4) re_int (nomark _)) (rw_and1 (rt_cmp os_gt (re_b1 c_len (pe_callB callr_any (by rfl) T.b_len boot_len (pa_cons peW pa_nil)) (re_var 2)) re_int (nomark _))))) (rss_cons (rs_setLc 5 (own := [("one", 7)]) rfl (by rfl) sc.nd (by rfl) (by rfl) (by rfl) (blkOk_by (by kernel_rfl)) (ri_any (re_var 2)) (fun _ _ _ _ _ => (rg_name 7 sc.nd)) (fun _ _ _ _ _ => (rts_one (rt_cmp (os_ne (room64 hr)) (re_var 7) (re_var 3) (nomark _)))) (fun _ _ _ _ _ => (re_var 7)) (by decide)) (rss_one (rs_ret (re_tup (ra_cons re_str (ra_cons (re_var 3) (ra_cons (re_ix (room64 hr) (re_var 5) (re_callG (ok__law_take T) (hr.mono (by decide)) T.g__law_take (ra_cons (re_var 0) (ra_cons (re_b1 c_len (pe_callB callr_any (by rfl) T.b_len boot_len (pa_cons peW pa_nil)) (re_var 5)) ra_nil)) (al_cons (al_cons al_nil)))) ra_nil))))))) rss_nil) (rss_cons (rs_if (rt_cmp os_lt (re_var 4) re_int (nomark _)) (rss_cons (rs_set 6 sc.nd (re_ix (room64 hr) (re_frz (rf_lst (ra_cons (re_frz (rf_lst (ra_cons re_str ra_nil))) (ra_cons (re_frz (rf_lst (ra_cons re_str (ra_cons re_str (ra_cons re_str ra_nil))))) ra_nil)))) (re_b1 c_int (pe_callTy callr_any (by rfl) T.b_int PyProof.Rows.boot_int (pa_cons peW pa_nil)) (re_cmp (os_eq (room64 hr)) (re_ix (room64 hr) (re_var 1) re_int) (re_ix (room64 hr) (re_var 1) re_int) (nomark _))))) (rss_one (rs_ret (re_tup (ra_cons re_str (ra_cons (re_var 3) (ra_cons (re_ix (room64 hr) (re_var 6) (re_callG (ok__law_take T) (hr.mono (by decide)) T.g__law_take (ra_cons (re_var 0) (ra_cons (re_b1 c_len (pe_callB callr_any (by rfl) T.b_len boot_len (pa_cons peW pa_nil)) (re_var 6)) ra_nil)) (al_cons (al_cons al_nil)))) ra_nil))))))) rss_nil) (rss_cons (rs_if (rt_cmp (os_eq (room64 hr)) (re_var 4) re_int (nomark _)) (rss_one (rs_ret (re_tup (ra_cons re_str (ra_cons (re_var 3) (ra_cons (re_callG (ok__law_face T) (hr.mono (by decide)) T.g__law_face (ra_cons (re_var 0) (ra_cons (re_var 1) ra_nil)) (al_cons (al_cons al_nil))) ra_nil)))))) rss_nil) (rss_one (rs_ret (re_tup (ra_cons re_str (ra_cons (re_var 3) ra_nil))))))))))
theorem ok__law_doing (T : Tx K mg cl) : Good P w K mg base cl 4 (He.ga K "_law_doing") f__law_doing 4 :=
  have sc := sc__law_doing
  good_of T.F__law_doing sc rfl rfl (fun _ _ _ _ _ _ us hl => match us, hl with | [_, _, _, _], _ => rfl) fun cdv A outer s H E hr =>
    (rss_cons (rs_set 4 sc.nd (re_callG (ok__law_deed T) (hr.mono (by decide)) T.g__law_deed (ra_cons (re_var 0) (ra_cons (re_var 1) (ra_cons (re_var 2) ra_nil))) (al_cons (al_cons (al_cons al_nil))))) (rss_cons (rs_set 5 sc.nd (re_callG (ok__law_take T) (hr.mono (by decide)) T.g__law_take (ra_cons (re_var 0) (ra_cons re_int ra_nil)) (al_cons (al_cons al_nil)))) (rss_cons (rs_if (rt_rw (rw_or (rt_cmp os_lt (re_var 5) re_int (nomark _)) (rw_or1 (rt_cmp (os_eq (room64 hr)) (re_var 3) re_int (nomark _))))) (rss_one (rs_ret (re_ix (room64 hr) (re_frz (rf_lst (ra_cons (re_tup (ra_cons re_str (ra_cons (re_var 4) ra_nil))) (ra_cons (re_tup (ra_cons re_str (ra_cons (re_var 3) (ra_cons (re_var 4) ra_nil)))) ra_nil)))) (re_bin os_mod (re_var 5) re_int)))) rss_nil) (rss_cons (rs_if (rt_cmp (os_eq (room64 hr)) (re_var 5) re_int (nomark _)) (rss_one (rs_ret (re_tup (ra_cons re_str (ra_cons (re_callG (ok__law_take T) (hr.mono (by decide)) T.g__law_take (ra_cons (re_var 0) (ra_cons (re_bin os_add (re_var 3) re_int) ra_nil)) (al_cons (al_cons al_nil))) (ra_cons (re_var 4) ra_nil)))))) rss_nil) (rss_cons (rs_if (rt_cmp (os_eq (room64 hr)) (re_var 5) re_int (nomark _)) (rss_one (rs_ret (re_tup (ra_cons re_str (ra_cons (re_callG (ok__law_take T) (hr.mono (by decide)) T.g__law_take (ra_cons (re_var 0) (ra_cons (re_var 3) ra_nil)) (al_cons (al_cons al_nil))) (ra_cons (re_var 4) ra_nil)))))) rss_nil) (rss_one (rs_ret (re_tup (ra_cons re_str (ra_cons (re_callG (ok__law_take T) (hr.mono (by decide)) T.g__law_take (ra_cons (re_var 0) (ra_cons (re_var 3) ra_nil)) (al_cons (al_cons al_nil))) ra_nil))))))))))
theorem ok__law_row_by (T : Tx K mg cl) : Good P w K mg base cl 1 (He.ga K "_law_row_by") f__law_row_by 2 :=
  have sc := sc__law_row_by
  good_of T.F__law_row_by sc rfl rfl (fun _ _ _ _ _ _ us hl => match us, hl with | [_, _], _ => rfl) fun cdv A outer s H E hr =>
    (rss_cons (rs_if (rt_cmp (os_eq (room64 hr)) (re_ix (room64 hr) (re_var 1) re_int) re_str (nomark _)) (rss_one (rs_ret (re_bin os_add (re_var 0) (re_frz (rf_lst (ra_cons (re_ix (room64 hr) (re_var 1) re_int) ra_nil)))))) rss_nil) (rss_cons (rs_set 2 sc.nd (re_ix (room64 hr) (re_var 1) re_int)) (rss_cons (rs_if (rt_cmp (os_eq (room64 hr)) (re_ix (room64 hr) (re_var 1) re_int) re_str (nomark _)) (rss_one (rs_ret (re_bin os_add (re_sl (re_var 0) ro_none (ro_some (re_var 2))) (re_sl (re_var 0) (ro_some (re_bin os_add (re_var 2) re_int)) ro_none)))) rss_nil) (rss_one (rs_ret (re_bin os_add (re_bin os_add (re_sl (re_var 0) ro_none (ro_some (re_var 2))) (re_frz (rf_lst (ra_cons (re_ix (room64 hr) (re_var 1) re_int) ra_nil)))) (re_sl (re_var 0) (ro_some (re_bin os_add (re_var 2) (re_b1 c_int (pe_callTy callr_any (by rfl) T.b_int PyProof.Rows.boot_int (pa_cons peW pa_nil)) (re_cmp (os_eq (room64 hr)) (re_ix (room64 hr) (re_var 1) re_int) re_str (nomark _))))) ro_none)))))))
theorem ok_Book_need_room (T : Tx K mg cl) : Good P w K mg base cl 2 (He.ma K (He.ga K "Book") "need_room") f_Book_need_room 1 :=
  have sc := sc_Book_need_room
  good_of T.F_Book_need_room sc rfl rfl (fun _ _ _ _ _ _ us hl => match us, hl with | [_], _ => rfl) fun cdv A outer s H E hr =>
    (rss_one (rs_if (rt_cmp os_ge (re_meth0 (methT T.cl_Book T.k_Book T.m_Book_length ((ok_Book_length T))) (fun c hm F b => pe_meth0 peW c hm F (hr.mono (by decide)) b .nil pass0) (re_var 0)) (re_glob T.g_MOST_DEEDS) (nomark _)) (rss_one rs_never) rss_nil))
theorem ok_Book_changed (T : Tx K mg cl) : Good P w K mg base cl 11 (He.ma K (He.ga K "Book") "changed") f_Book_changed 2 :=
  have sc := sc_Book_changed
  good_of T.F_Book_changed sc rfl rfl (fun _ _ _ _ _ _ us hl => match us, hl with | [_, _], _ => rfl) fun cdv A outer s H E hr =>
    (rss_cons (rs_expr (re_mut m_append (pe_bm PySem.F.plainAttrs_list PySem.F.slot_list_append PySem.F.type_list_append mtr_any peW paW) (re_fld T.n_past (re_var 0)) (ra_cons (re_fld T.n_deeds (re_var 0)) ra_nil))) (rss_cons (rs_fld T.n_undone_rows (re_own (rf_lst ra_nil)) (re_var 0)) (rss_one (rs_ret (re_meth (methT T.cl_Book T.k_Book T.m_Book_become ((ok_Book_become T))) (fun c hm F b => pe_meth peW c hm F (hr.mono (by decide)) b .nil pass0 paW) (re_var 0) (ra_cons (re_var 1) ra_nil) (al_cons al_nil))))))
theorem ok_Book_do (T : Tx K mg cl) : Good P w K mg base cl 12 (He.ma K (He.ga K "Book") "do") f_Book_do 2 :=
  have sc := sc_Book_do
  good_of T.F_Book_do sc rfl rfl (fun _ _ _ _ _ _ us hl => match us, hl with | [_, _], _ => rfl) fun cdv A outer s H E hr =>
    (rss_cons (rs_expr (re_callG (ok_good_or_wrong T) (hr.mono (by decide)) T.g_good_or_wrong (ra_cons re_int (ra_cons (re_callG (ok_is_deed T) (hr.mono (by decide)) T.g_is_deed (ra_cons (re_var 1) ra_nil) (al_cons al_nil)) ra_nil)) (al_cons (al_cons al_nil)))) (rss_cons (rs_expr (re_meth (methT T.cl_Stamps T.k_Stamps T.m_Stamps_need_deed ((ok_Stamps_need_deed T))) (fun c hm F b => pe_meth peW c hm F (hr.mono (by decide)) b .nil pass0 paW) (re_fld T.n_begun (re_var 0)) (ra_cons (re_var 1) ra_nil) (al_cons al_nil))) (rss_cons (rs_expr (re_meth0 (methT T.cl_Book T.k_Book T.m_Book_need_room ((ok_Book_need_room T))) (fun c hm F b => pe_meth0 peW c hm F (hr.mono (by decide)) b .nil pass0) (re_var 0))) (rss_one (rs_ret (re_meth (methT T.cl_Book T.k_Book T.m_Book_changed ((ok_Book_changed T))) (fun c hm F b => pe_meth peW c hm F (hr.mono (by decide)) b .nil pass0 paW) (re_var 0) (ra_cons (re_bin os_add (re_fld T.n_deeds (re_var 0)) (re_frz (rf_lst (ra_cons (re_var 1) ra_nil)))) ra_nil) (al_cons al_nil)))))))
theorem ok_is_whole (T : Tx K mg cl) : Good P w K mg base cl 1 (He.ga K "is_whole") f_is_whole 1 :=
  have sc := sc_is_whole
  good_of T.F_is_whole sc rfl rfl (fun _ _ _ _ _ _ us hl => match us, hl with | [_], _ => rfl) fun cdv A outer s H E hr =>
    (rss_one (rs_ret (re_and (re_isB (T := "int") (pe_callB callr_any (by rfl) T.b_isinstance PyProof.Rows.boot_isinstance (pa_cons peW (pa_cons (pe_bltn (by rfl) T.b_int PyProof.Rows.boot_int rfl) pa_nil))) (by decide) (re_var 0)) (re_one (re_not (re_isB (T := "bool") (pe_callB callr_any (by rfl) T.b_isinstance PyProof.Rows.boot_isinstance (pa_cons peW (pa_cons (pe_bltn (by rfl) T.b_bool PyProof.Rows.boot_bool rfl) pa_nil))) (by decide) (re_var 0)))))))
theorem ok_is_from_none (T : Tx K mg cl) : Good P w K mg base cl 2 (He.ga K "is_from_none") f_is_from_none 1 :=
  have sc := sc_is_from_none
  good_of T.F_is_from_none sc rfl rfl (fun _ _ _ _ _ _ us hl => match us, hl with | [_], _ => rfl) fun cdv A outer s H E hr =>
    (rss_one (rs_ret (re_and (re_callG (ok_is_whole T) (hr.mono (by decide)) T.g_is_whole (ra_cons (re_var 0) ra_nil) (al_cons al_nil)) (re_one (re_cmp os_ge (re_var 0) re_int (nomark _))))))
theorem ok_Book_need_there (T : Tx K mg cl) : Good P w K mg base cl 1 (He.ma K (He.ga K "Book") "need_there") f_Book_need_there 3 :=
  have sc := sc_Book_need_there
  good_of T.F_Book_need_there sc rfl rfl (fun _ _ _ _ _ _ us hl => match us, hl with | [_, _, _], _ => rfl) fun cdv A outer s H E hr =>
    (rss_one (rs_if (rt_cmp os_gt (re_var 1) (re_var 2) (nomark _)) (rss_one rs_never) rss_nil))
theorem ok_Book_put_row (T : Tx K mg cl) : Good P w K mg base cl 4 (He.ma K (He.ga K "Book") "put_row") f_Book_put_row 3 :=
  have sc := sc_Book_put_row
  good_of T.F_Book_put_row sc rfl rfl (fun _ _ _ _ _ _ us hl => match us, hl with | [_, _, _], _ => rfl) fun cdv A outer s H E hr =>
    (rss_cons (rs_expr (re_callG (ok_good_or_wrong T) (hr.mono (by decide)) T.g_good_or_wrong (ra_cons re_int (ra_cons (re_callG (ok_is_from_none T) (hr.mono (by decide)) T.g_is_from_none (ra_cons (re_var 1) ra_nil) (al_cons al_nil)) ra_nil)) (al_cons (al_cons al_nil)))) (rss_cons (rs_expr (re_callG (ok_good_or_wrong T) (hr.mono (by decide)) T.g_good_or_wrong (ra_cons re_int (ra_cons (re_callG (ok_is_deed T) (hr.mono (by decide)) T.g_is_deed (ra_cons (re_var 2) ra_nil) (al_cons al_nil)) ra_nil)) (al_cons (al_cons al_nil)))) (rss_cons (rs_expr (re_meth (methT T.cl_Stamps T.k_Stamps T.m_Stamps_need_deed ((ok_Stamps_need_deed T))) (fun c hm F b => pe_meth peW c hm F (hr.mono (by decide)) b .nil pass0 paW) (re_fld T.n_begun (re_var 0)) (ra_cons (re_var 2) ra_nil) (al_cons al_nil))) (rss_cons (rs_expr (re_meth (methT T.cl_Book T.k_Book T.m_Book_need_there ((ok_Book_need_there T))) (fun c hm F b => pe_meth peW c hm F (hr.mono (by decide)) b .nil pass0 paW) (re_var 0) (ra_cons (re_var 1) (ra_cons (re_bin os_sub (re_meth0 (methT T.cl_Book T.k_Book T.m_Book_length ((ok_Book_length T))) (fun c hm F b => pe_meth0 peW c hm F (hr.mono (by decide)) b .nil pass0) (re_var 0)) re_int) ra_nil)) (al_cons (al_cons al_nil)))) (rss_one (rs_ret (re_bin os_add (re_bin os_add (re_sl (re_fld T.n_deeds (re_var 0)) ro_none (ro_some (re_var 1))) (re_frz (rf_lst (ra_cons (re_var 2) ra_nil)))) (re_sl (re_fld T.n_deeds (re_var 0)) (ro_some (re_bin os_add (re_var 1) re_int)) ro_none))))))))
theorem ok_Book_put (T : Tx K mg cl) : Good P w K mg base cl 12 (He.ma K (He.ga K "Book") "put") f_Book_put 3 :=
  have sc := sc_Book_put
  good_of T.F_Book_put sc rfl rfl (fun _ _ _ _ _ _ us hl => match us, hl with | [_, _, _], _ => rfl) fun cdv A outer s H E hr =>
    (rss_one (rs_ret (re_meth (methT T.cl_Book T.k_Book T.m_Book_changed ((ok_Book_changed T))) (fun c hm F b => pe_meth peW c hm F (hr.mono (by decide)) b .nil pass0 paW) (re_var 0) (ra_cons (re_meth (methT T.cl_Book T.k_Book T.m_Book_put_row ((ok_Book_put_row T))) (fun c hm F b => pe_meth peW c hm F (hr.mono (by decide)) b .nil pass0 paW) (re_var 0) (ra_cons (re_var 1) (ra_cons (re_var 2) ra_nil)) (al_cons (al_cons al_nil))) ra_nil) (al_cons al_nil))))
theorem ok_Book_slip (T : Tx K mg cl) : Good P w K mg base cl 12 (He.ma K (He.ga K "Book") "slip") f_Book_slip 3 :=
  have sc := sc_Book_slip
  good_of T.F_Book_slip sc rfl rfl (fun _ _ _ _ _ _ us hl => match us, hl with | [_, _, _], _ => rfl) fun cdv A outer s H E hr =>
    (rss_cons (rs_expr (re_callG (ok_good_or_wrong T) (hr.mono (by decide)) T.g_good_or_wrong (ra_cons re_int (ra_cons (re_callG (ok_is_from_none T) (hr.mono (by decide)) T.g_is_from_none (ra_cons (re_var 1) ra_nil) (al_cons al_nil)) ra_nil)) (al_cons (al_cons al_nil)))) (rss_cons (rs_expr (re_callG (ok_good_or_wrong T) (hr.mono (by decide)) T.g_good_or_wrong (ra_cons re_int (ra_cons (re_callG (ok_is_deed T) (hr.mono (by decide)) T.g_is_deed (ra_cons (re_var 2) ra_nil) (al_cons al_nil)) ra_nil)) (al_cons (al_cons al_nil)))) (rss_cons (rs_expr (re_meth (methT T.cl_Stamps T.k_Stamps T.m_Stamps_need_deed ((ok_Stamps_need_deed T))) (fun c hm F b => pe_meth peW c hm F (hr.mono (by decide)) b .nil pass0 paW) (re_fld T.n_begun (re_var 0)) (ra_cons (re_var 2) ra_nil) (al_cons al_nil))) (rss_cons (rs_expr (re_meth (methT T.cl_Book T.k_Book T.m_Book_need_there ((ok_Book_need_there T))) (fun c hm F b => pe_meth peW c hm F (hr.mono (by decide)) b .nil pass0 paW) (re_var 0) (ra_cons (re_var 1) (ra_cons (re_meth0 (methT T.cl_Book T.k_Book T.m_Book_length ((ok_Book_length T))) (fun c hm F b => pe_meth0 peW c hm F (hr.mono (by decide)) b .nil pass0) (re_var 0)) ra_nil)) (al_cons (al_cons al_nil)))) (rss_cons (rs_expr (re_meth0 (methT T.cl_Book T.k_Book T.m_Book_need_room ((ok_Book_need_room T))) (fun c hm F b => pe_meth0 peW c hm F (hr.mono (by decide)) b .nil pass0) (re_var 0))) (rss_one (rs_ret (re_meth (methT T.cl_Book T.k_Book T.m_Book_changed ((ok_Book_changed T))) (fun c hm F b => pe_meth peW c hm F (hr.mono (by decide)) b .nil pass0 paW) (re_var 0) (ra_cons (re_bin os_add (re_bin os_add (re_sl (re_fld T.n_deeds (re_var 0)) ro_none (ro_some (re_var 1))) (re_frz (rf_lst (ra_cons (re_var 2) ra_nil)))) (re_sl (re_fld T.n_deeds (re_var 0)) (ro_some (re_var 1)) ro_none)) ra_nil) (al_cons al_nil)))))))))
theorem ok_Book_take (T : Tx K mg cl) : Good P w K mg base cl 12 (He.ma K (He.ga K "Book") "take") f_Book_take 2 :=
  have sc := sc_Book_take
  good_of T.F_Book_take sc rfl rfl (fun _ _ _ _ _ _ us hl => match us, hl with | [_, _], _ => rfl) fun cdv A outer s H E hr =>
    (rss_cons (rs_expr (re_callG (ok_good_or_wrong T) (hr.mono (by decide)) T.g_good_or_wrong (ra_cons re_int (ra_cons (re_callG (ok_is_from_none T) (hr.mono (by decide)) T.g_is_from_none (ra_cons (re_var 1) ra_nil) (al_cons al_nil)) ra_nil)) (al_cons (al_cons al_nil)))) (rss_cons (rs_expr (re_meth (methT T.cl_Book T.k_Book T.m_Book_need_there ((ok_Book_need_there T))) (fun c hm F b => pe_meth peW c hm F (hr.mono (by decide)) b .nil pass0 paW) (re_var 0) (ra_cons (re_var 1) (ra_cons (re_bin os_sub (re_meth0 (methT T.cl_Book T.k_Book T.m_Book_length ((ok_Book_length T))) (fun c hm F b => pe_meth0 peW c hm F (hr.mono (by decide)) b .nil pass0) (re_var 0)) re_int) ra_nil)) (al_cons (al_cons al_nil)))) (rss_one (rs_ret (re_meth (methT T.cl_Book T.k_Book T.m_Book_changed ((ok_Book_changed T))) (fun c hm F b => pe_meth peW c hm F (hr.mono (by decide)) b .nil pass0 paW) (re_var 0) (ra_cons (re_bin os_add (re_sl (re_fld T.n_deeds (re_var 0)) ro_none (ro_some (re_var 1))) (re_sl (re_fld T.n_deeds (re_var 0)) (ro_some (re_bin os_add (re_var 1) re_int)) ro_none)) ra_nil) (al_cons al_nil))))))
theorem ok__law_told_by (T : Tx K mg cl) : Good P w K mg base cl 13 (He.ga K "_law_told_by") f__law_told_by 2 :=
  have sc := sc__law_told_by
  good_of T.F__law_told_by sc rfl rfl (fun _ _ _ _ _ _ us hl => match us, hl with | [_, _], _ => rfl) fun cdv A outer s H E hr =>
    (rss_cons (rs_if (rt_cmp (os_eq (room64 hr)) (re_ix (room64 hr) (re_var 1) re_int) re_str (nomark _)) (rss_one (rs_ret (re_meth (methT T.cl_Book T.k_Book T.m_Book_do ((ok_Book_do T))) (fun c hm F b => pe_meth peW c hm F (hr.mono (by decide)) b .nil pass0 paW) (re_var 0) (ra_cons (re_ix (room64 hr) (re_var 1) re_int) ra_nil) (al_cons al_nil)))) rss_nil) (rss_cons (rs_if (rt_cmp (os_eq (room64 hr)) (re_ix (room64 hr) (re_var 1) re_int) re_str (nomark _)) (rss_one (rs_ret (re_meth (methT T.cl_Book T.k_Book T.m_Book_put ((ok_Book_put T))) (fun c hm F b => pe_meth peW c hm F (hr.mono (by decide)) b .nil pass0 paW) (re_var 0) (ra_cons (re_ix (room64 hr) (re_var 1) re_int) (ra_cons (re_ix (room64 hr) (re_var 1) re_int) ra_nil)) (al_cons (al_cons al_nil))))) rss_nil) (rss_cons (rs_if (rt_cmp (os_eq (room64 hr)) (re_ix (room64 hr) (re_var 1) re_int) re_str (nomark _)) (rss_one (rs_ret (re_meth (methT T.cl_Book T.k_Book T.m_Book_slip ((ok_Book_slip T))) (fun c hm F b => pe_meth peW c hm F (hr.mono (by decide)) b .nil pass0 paW) (re_var 0) (ra_cons (re_ix (room64 hr) (re_var 1) re_int) (ra_cons (re_ix (room64 hr) (re_var 1) re_int) ra_nil)) (al_cons (al_cons al_nil))))) rss_nil) (rss_one (rs_ret (re_meth (methT T.cl_Book T.k_Book T.m_Book_take ((ok_Book_take T))) (fun c hm F b => pe_meth peW c hm F (hr.mono (by decide)) b .nil pass0 paW) (re_var 0) (ra_cons (re_ix (room64 hr) (re_var 1) re_int) ra_nil) (al_cons al_nil)))))))
theorem ok__law_done (T : Tx K mg cl) : Good P w K mg base cl 2 (He.ga K "_law_done") f__law_done 2 :=
  have sc := sc__law_done
  good_of T.F__law_done sc rfl rfl (fun _ _ _ _ _ _ us hl => match us, hl with | [_, _], _ => rfl) fun cdv A outer s H E hr =>
    (rss_cons (rs_set 2 sc.nd (re_ownD (rd_dict (pe_callTy callr_any (by rfl) T.b_dict PyProof.Rows.boot_dict (pa_cons peW pa_nil)) (re_var 0)))) (rss_cons (rs_if (rt_cmp (os_eq (room64 hr)) (re_ix (room64 hr) (re_var 1) re_int) re_str (nomark _)) (rss_one (rs_subD (room64 hr) (re_callG (ok__law_over T) (hr.mono (by decide)) T.g__law_over (ra_cons (re_ix (room64 hr) (re_var 0) (re_ix (room64 hr) (re_var 1) re_int)) (ra_cons (re_callG (ok__law_spun T) (hr.mono (by decide)) T.g__law_spun (ra_cons (re_ix (room64 hr) (re_var 0) (re_ix (room64 hr) (re_var 1) re_int)) (ra_cons re_str ra_nil)) (al_cons (al_cons al_nil))) ra_nil)) (al_cons (al_cons al_nil))) (re_var 2) (re_ix (room64 hr) (re_var 1) re_int))) rss_nil) (rss_cons (rs_if (rt_cmp (os_eq (room64 hr)) (re_ix (room64 hr) (re_var 1) re_int) re_str (nomark _)) (rss_one (rs_subD (room64 hr) (re_callG (ok__law_spun T) (hr.mono (by decide)) T.g__law_spun (ra_cons (re_ix (room64 hr) (re_var 0) (re_ix (room64 hr) (re_var 1) re_int)) (ra_cons (re_ix (room64 hr) (re_var 1) re_int) ra_nil)) (al_cons (al_cons al_nil))) (re_var 2) (re_ix (room64 hr) (re_var 1) re_int))) rss_nil) (rss_cons (rs_if (rt_cmp (os_eq (room64 hr)) (re_ix (room64 hr) (re_var 1) re_int) re_str (nomark _)) (rss_one (rs_subD (room64 hr) (re_ix (room64 hr) (re_var 1) re_int) (re_var 2) (re_ix (room64 hr) (re_var 1) re_int))) rss_nil) (rss_one (rs_ret (re_freeze (re_var 2))))))))
theorem ok__law_stood (T : Tx K mg cl) : Good P w K mg base cl 3 (He.ga K "_law_stood") f__law_stood 2 :=
  have sc := sc__law_stood
  good_of T.F__law_stood sc rfl rfl (fun _ _ _ _ _ _ us hl => match us, hl with | [_, _], _ => rfl) fun cdv A outer s H E hr =>
    (rss_cons (rs_set 2 sc.nd (re_own (rf_lst (ra_cons (re_var 0) ra_nil)))) (rss_cons (rs_for PassesOwn.never rfl (ri_any (re_var 1)) (rg_name 3 sc.nd) (rss_one (rs_expr (re_mut m_append (pe_bm PySem.F.plainAttrs_list PySem.F.slot_list_append PySem.F.type_list_append mtr_any peW paW) (re_var 2) (ra_cons (re_callG (ok__law_done T) (hr.mono (by decide)) T.g__law_done (ra_cons (re_ix (room64 hr) (re_var 2) (re_neg re_int)) (ra_cons (re_var 3) ra_nil)) (al_cons (al_cons al_nil))) ra_nil))))) (rss_one (rs_ret (re_freeze (re_var 2))))))
theorem ok__law_otherwise (T : Tx K mg cl) : Good P w K mg base cl 1 (He.ga K "_law_otherwise") f__law_otherwise 2 :=
  have sc := sc__law_otherwise
  good_of T.F__law_otherwise sc rfl rfl (fun _ _ _ _ _ _ us hl => match us, hl with | [_, _], _ => rfl) fun cdv A outer s H E hr =>
    (rss_cons (rs_set 2 sc.nd (re_own (rf_lst ra_nil))) (rss_cons (rs_for PassesOwn.never rfl (ri_range1 T.b_range (re_b2 (c_min) (pe_callB callr_any (by rfl) T.b_min PyProof.Rows.boot_min (pa_cons peW (pa_cons peW pa_nil))) (re_b1 c_len (pe_callB callr_any (by rfl) T.b_len boot_len (pa_cons peW pa_nil)) (re_var 0)) (re_b1 c_len (pe_callB callr_any (by rfl) T.b_len boot_len (pa_cons peW pa_nil)) (re_var 1)))) (rg_name 3 sc.nd) (rss_one (rs_expr (re_mut m_extend (pe_bm PySem.F.plainAttrs_list PySem.F.slot_list_extend PySem.F.type_list_extend mtr_any peW paW) (re_var 2) (ra_cons (re_frz (rf_lc (own := [("name", 4)]) rfl (by rfl) sc.nd (blkOk_by (by kernel_rfl)) (ri_any (re_frz (rf_b1 (c_sorted) (pe_callB callr_any (by rfl) T.b_sorted PyProof.Rows.boot_sorted (pa_cons peW pa_nil)) (re_ix (room64 hr) (re_var 0) (re_var 3))))) (fun _ _ _ _ _ => (rg_name 4 sc.nd)) (fun _ _ _ _ _ => (rts_one (rt_cmp (os_ne (room64 hr)) (re_ix (room64 hr) (re_ix (room64 hr) (re_var 0) (re_var 3)) (re_var 4)) (re_ix (room64 hr) (re_ix (room64 hr) (re_var 1) (re_var 3)) (re_var 4)) (nomark _)))) (fun _ _ _ _ _ => (re_tup (ra_cons (re_var 3) (ra_cons (re_var 4) ra_nil)))) (by decide))) ra_nil))))) (rss_one (rs_ret (re_freeze (re_var 2))))))
theorem ok__law_changed (T : Tx K mg cl) : Good P w K mg base cl 2 (He.ga K "_law_changed") f__law_changed 3 :=
  have sc := sc__law_changed
  good_of T.F__law_changed sc rfl rfl (fun _ _ _ _ _ _ us hl => match us, hl with | [_, _, _], _ => rfl) fun cdv A outer s H E hr =>
    (rss_cons (rs_set 3 sc.nd (re_callG (ok__law_take T) (hr.mono (by decide)) T.g__law_take (ra_cons (re_var 0) (ra_cons re_int ra_nil)) (al_cons (al_cons al_nil)))) (rss_cons (rs_if (rt_cmp (os_eq (room64 hr)) (re_var 3) re_int (nomark _)) (rss_one (rs_expr (re_mut0 m_clear (pe_bm0 PySem.F.plainAttrs_list PySem.F.slot_list_clear PySem.F.type_list_clear mtr_any peW) (re_var 1)))) (rss_one (rs_if (rt_cmp (os_eq (room64 hr)) (re_var 3) re_int (nomark _)) (rss_one (rs_expr (re_mut0 m_reverse (pe_bm0 PySem.F.plainAttrs_list PySem.F.slot_list_reverse PySem.F.type_list_reverse mtr_any peW) (re_var 1)))) rss_nil))) (rss_cons (rs_expr (re_mut m_append (pe_bm PySem.F.plainAttrs_list PySem.F.slot_list_append PySem.F.type_list_append mtr_any peW paW) (re_var 1) (ra_cons (re_tup (ra_cons re_int (ra_cons re_str ra_nil))) ra_nil))) (rss_frz (i := 1) (rss_one (rs_expr (re_mut m_append (pe_bm PySem.F.plainAttrs_list PySem.F.slot_list_append PySem.F.type_list_append mtr_any peW paW) (re_var 2) (ra_cons (re_tup (ra_cons (re_var 1) (ra_cons (re_frz (rf_b1 (c_list) (pe_callTy callr_any (by rfl) T.b_list PyProof.Rows.boot_list (pa_cons peW pa_nil)) (re_var 1))) ra_nil))) ra_nil))))))))
theorem ok_Book_row (T : Tx K mg cl) : Good P w K mg base cl 1 (He.ma K (He.ga K "Book") "row") f_Book_row 1 :=
  have sc := sc_Book_row
  good_of T.F_Book_row sc rfl rfl (fun _ _ _ _ _ _ us hl => match us, hl with | [_], _ => rfl) fun cdv A outer s H E hr =>
    (rss_one (rs_ret (re_frz (rf_b1 (c_list) (pe_callTy callr_any (by rfl) T.b_list PyProof.Rows.boot_list (pa_cons peW pa_nil)) (re_fld T.n_deeds (re_var 0))))))
theorem ok__law_step (T : Tx K mg cl) : Good P w K mg base cl 14 (He.ga K "_law_step") f__law_step 6 :=
  have sc := sc__law_step
  good_of T.F__law_step sc rfl rfl (fun _ _ _ _ _ _ us hl => match us, hl with | [_, _, _, _, _, _], _ => rfl) fun cdv A outer s H E hr =>
    (rss_cons (rs_unl rfl (re_var 4) (rgs_cons (rg_name 6 sc.nd) (rgs_cons (rg_name 7 sc.nd) (rgs_cons (rg_name 8 sc.nd) rgs_nil))) (gl_cons (gl_cons (gl_cons gl_nil)))) (rss_cons (rs_set 9 sc.nd (re_callG (ok__law_take T) (hr.mono (by decide)) T.g__law_take (ra_cons (re_var 0) (ra_cons re_int ra_nil)) (al_cons (al_cons al_nil)))) (rss_cons (rs_if (rt_cmp os_lt (re_var 9) re_int (nomark _)) (rss_cons (rs_set 10 sc.nd (re_bin os_sub (re_bin os_add (re_var 8) (re_bin os_mul re_int (re_var 9))) re_int)) (rss_cons (rs_if (rt_not (rt_chain os_le os_lt re_int (re_var 10) (re_b1 c_len (pe_callB callr_any (by rfl) T.b_len boot_len (pa_cons peW pa_nil)) (re_var 7)))) (rss_one (rs_ret re_bl)) rss_nil) (rss_one (rs_set 11 sc.nd (re_if (rt_cmp (os_eq (room64 hr)) (re_var 9) re_int (nomark _)) (re_meth0 (methT T.cl_Book T.k_Book T.m_Book_back ((ok_Book_back T))) (fun c hm F b => pe_meth0 peW c hm F (hr.mono (by decide)) b .nil pass0) (re_var 6)) (re_meth0 (methT T.cl_Book T.k_Book T.m_Book_again ((ok_Book_again T))) (fun c hm F b => pe_meth0 peW c hm F (hr.mono (by decide)) b .nil pass0) (re_var 6))))))) (rss_cons (rs_set 12 sc.nd (re_callG (ok__law_doing T) (hr.mono (by decide)) T.g__law_doing (ra_cons (re_var 0) (ra_cons (re_var 1) (ra_cons (re_var 2) (ra_cons (re_b1 c_len (pe_callB callr_any (by rfl) T.b_len boot_len (pa_cons peW pa_nil)) (re_ix (room64 hr) (re_var 7) (re_var 8))) ra_nil)))) (al_cons (al_cons (al_cons (al_cons al_nil)))))) (rss_cons (rs_set 13 sc.nd (re_bin os_add (re_var 8) re_int)) (rss_cons (rs_subL (re_bin os_add (re_sl (re_var 7) ro_none (ro_some (re_var 13))) (re_frz (rf_lst (ra_cons (re_callG (ok__law_row_by T) (hr.mono (by decide)) T.g__law_row_by (ra_cons (re_ix (room64 hr) (re_var 7) (re_var 8)) (ra_cons (re_var 12) ra_nil)) (al_cons (al_cons al_nil))) ra_nil)))) (re_var 4) re_int) (rss_cons (rs_set 7 sc.nd (re_ix (room64 hr) (re_var 4) re_int)) (rss_one (rs_par 11 10 sc.nd (re_callG (ok__law_told_by T) (hr.mono (by decide)) T.g__law_told_by (ra_cons (re_var 6) (ra_cons (re_var 12) ra_nil)) (al_cons (al_cons al_nil))) (re_bin os_add (re_var 8) re_int) (by rfl)))))))) (rss_cons (rs_if (rt_cmp (os_ne (room64 hr)) (re_var 11) (re_callG (ok__law_otherwise T) (hr.mono (by decide)) T.g__law_otherwise (ra_cons (re_callG (ok__law_stood T) (hr.mono (by decide)) T.g__law_stood (ra_cons (re_var 3) (ra_cons (re_ix (room64 hr) (re_var 7) (re_var 8)) ra_nil)) (al_cons (al_cons al_nil))) (ra_cons (re_callG (ok__law_stood T) (hr.mono (by decide)) T.g__law_stood (ra_cons (re_var 3) (ra_cons (re_ix (room64 hr) (re_var 7) (re_var 10)) ra_nil)) (al_cons (al_cons al_nil))) ra_nil)) (al_cons (al_cons al_nil))) (nomark _)) (rss_one (rs_ret re_bl)) rss_nil) (rss_cons (rs_expr (re_callG (ok__law_changed T) (hr.mono (by decide)) T.g__law_changed (ra_cons (re_var 0) (ra_cons (re_var 11) (ra_cons (re_var 5) ra_nil))) (al_cons (al_cons (al_cons al_nil))))) (rss_cons (rs_subL (re_var 10) (re_var 4) re_int) (rss_one (rs_ret (re_cmp (os_eq (room64 hr)) (re_meth0 (methT T.cl_Book T.k_Book T.m_Book_row ((ok_Book_row T))) (fun c hm F b => pe_meth0 peW c hm F (hr.mono (by decide)) b .nil pass0) (re_var 6)) (re_ix (room64 hr) (re_var 7) (re_var 10)) (nomark _))))))))))
theorem okF_law (T : Tx K mg cl) {fd : FuncData} (F : FunD K "law" "law" (defArgs st_law) (defBody st_law) (defScope st_law) [] [] (He.ga K "law") fd) : FnOk P w K mg base CX0 15 (He.ga K "law") fd ["script"] (spM K cl f_law 1) :=
  have sc := sc_law
  fnD_of F sc rfl rfl fun cdv A outer s H E hr =>
    (rss_cons (rs_set 1 sc.nd (re_callG (ok__law_bag T) (hr.mono (by decide)) T.g__law_bag (ra_cons (re_var 0) ra_nil) (al_cons al_nil))) (rss_cons (rs_set 2 sc.nd (re_callG (ok__law_box T) (hr.mono (by decide)) T.g__law_box (ra_cons (re_var 1) (ra_cons re_int ra_nil)) (al_cons (al_cons al_nil)))) (rss_cons (rs_set 3 sc.nd (re_callG (ok__law_names T) (hr.mono (by decide)) T.g__law_names (ra_cons (re_var 1) (ra_cons (re_bin os_add re_int (re_callG (ok__law_take T) (hr.mono (by decide)) T.g__law_take (ra_cons (re_var 1) (ra_cons re_int ra_nil)) (al_cons (al_cons al_nil)))) ra_nil)) (al_cons (al_cons al_nil)))) (rss_cons (rs_set 4 sc.nd (re_callG (ok__law_faces T) (hr.mono (by decide)) T.g__law_faces (ra_cons (re_var 1) (ra_cons (re_var 2) (ra_cons (re_var 3) ra_nil))) (al_cons (al_cons (al_cons al_nil))))) (rss_cons (rs_par 5 6 sc.nd (re_own (rf_lst (ra_cons (re_own (rf_lst (ra_cons (re_makeG T.cl_Book T.mk_Book (ok_Book___init__ T) (hr.mono (by decide)) T.C_Book (ra_cons (re_trimF (re_makeG T.cl_Stamps T.mk_Stamps (ok_Stamps___init__ T) (hr.mono (by decide)) T.C_Stamps (ra_cons (re_var 4) ra_nil) (al_cons al_nil))) ra_nil) (al_cons al_nil)) (ra_cons (re_frz (rf_lst (ra_cons (re_frz (rf_lst ra_nil)) ra_nil))) (ra_cons re_int ra_nil))))) ra_nil))) (re_own (rf_lst ra_nil)) (by rfl)) (rss_cons (rs_for PassesOwn.never rfl (ri_range1 T.b_range (re_bin os_add re_int (re_callG (ok__law_take T) (hr.mono (by decide)) T.g__law_take (ra_cons (re_var 1) (ra_cons re_int ra_nil)) (al_cons (al_cons al_nil))))) (rg_name 7 sc.nd) (rss_cons (rs_if (rt_rw (rw_and (rt_cmp (os_eq (room64 hr)) (re_b1 c_len (pe_callB callr_any (by rfl) T.b_len boot_len (pa_cons peW pa_nil)) (re_var 5)) re_int (nomark _)) (rw_and1 (rt_cmp (os_eq (room64 hr)) (re_callG (ok__law_take T) (hr.mono (by decide)) T.g__law_take (ra_cons (re_var 1) (ra_cons re_int ra_nil)) (al_cons (al_cons al_nil))) re_int (nomark _))))) (rss_one (rs_expr (re_mut m_append (pe_bm PySem.F.plainAttrs_list PySem.F.slot_list_append PySem.F.type_list_append mtr_any peW paW) (re_var 5) (ra_cons (re_own (rf_lst (ra_cons (re_meth0 (methT T.cl_Book T.k_Book T.m_Book_copied ((ok_Book_copied T))) (fun c hm F b => pe_meth0 peW c hm F (hr.mono (by decide)) b .nil pass0) (re_ix (room64 hr) (re_ix (room64 hr) (re_var 5) re_int) re_int)) (ra_cons (re_frz (rf_lc (own := [("row", 10)]) rfl (by rfl) sc.nd (blkOk_by (by kernel_rfl)) (ri_any (re_ix (room64 hr) (re_ix (room64 hr) (re_var 5) re_int) re_int)) (fun _ _ _ _ _ => (rg_name 10 sc.nd)) (fun _ _ _ _ _ => rts_nil) (fun _ _ _ _ _ => (re_frz (rf_b1 (c_list) (pe_callTy callr_any (by rfl) T.b_list PyProof.Rows.boot_list (pa_cons peW pa_nil)) (re_var 10)))) (by decide))) (ra_cons (re_ix (room64 hr) (re_ix (room64 hr) (re_var 5) re_int) re_int) ra_nil))))) ra_nil)))) rss_nil) (rss_one (rs_if (rt_not (rt_of (re_callG (ok__law_step T) (hr.mono (by decide)) T.g__law_step (ra_cons (re_var 1) (ra_cons (re_var 2) (ra_cons (re_var 3) (ra_cons (re_var 4) (ra_cons (re_ix (room64 hr) (re_var 5) (re_callG (ok__law_take T) (hr.mono (by decide)) T.g__law_take (ra_cons (re_var 1) (ra_cons (re_b1 c_len (pe_callB callr_any (by rfl) T.b_len boot_len (pa_cons peW pa_nil)) (re_var 5)) ra_nil)) (al_cons (al_cons al_nil)))) (ra_cons (re_var 6) ra_nil)))))) (al_cons (al_cons (al_cons (al_cons (al_cons (al_cons al_nil))))))))) (rss_one (rs_ret re_bl)) rss_nil)))) (rss_frz (i := 6) (rss_one (rs_ret (re_cmp (os_eq (room64 hr)) (re_frz (rf_lc (own := [("told", 8), ("due", 9)]) rfl (by rfl) sc.nd (blkOk_by (by kernel_rfl)) (ri_any (re_var 6)) (fun _ _ _ _ _ => (rg_tup (rgs_cons (rg_name 8 sc.nd) (rgs_cons (rg_name 9 sc.nd) rgs_nil)) (gl_cons (gl_cons gl_nil)))) (fun _ _ _ _ _ => (rts_one (rt_cmp (os_ne (room64 hr)) (re_var 8) (re_var 9) (nomark _)))) (fun _ _ _ _ _ => re_int) (by decide))) (re_frz (rf_lst ra_nil)) (nomark _)))))))))))
end
end K88

set_option Elab.async false
set_option linter.all false
set_option maxRecDepth 100000
set_option maxHeartbeats 0
namespace K88
open PySem L2 MM
def names0 : List Str := ["_wall", "StampError", "Wrong", "NoName", "Unfit", "Stopped", "TooMany", "NoBeat", "Nothing", "LETTERS", "MOST_LETTERS", "MOST_SIDE", "UP", "FLAT", "TURNINGS", "HAND_TURNINGS", "is_whole", "is_name", "is_face_row", "is_face", "is_hand_turning", "is_deed", "is_from_none", "QUARTERS", "exchanges", "quarters", "has_turning", "box_of", "mirrored", "quarter_turned"]
def names1 : List Str := ["turned", "laid_sign", "laid_two", "done_at", "standings_behind", "MOST_STAMPS", "are_faces", "names_in", "Stamps", "MOST_DEEDS", "MOST_TRIED", "good_or_wrong", "otherwise", "is_doing", "Book", "_law_bag", "_law_take", "_law_box", "_law_face", "_law_names", "_law_spun", "_law_over", "_law_turnings", "_law_faces", "_law_deed", "_law_doing", "_law_done", "_law_stood", "_law_otherwise", "_law_row_by"]
def names2 : List Str := ["_law_told_by", "_law_changed", "_law_step"]
def names : List Str := names0 ++ names1 ++ names2
abbrev R : PySem.W.OpenRow := PySem.W.OpenLaw.row PySem.Challenge.rw_faceonface_k88_whole_told_lists_of_books
abbrev hk : PySem.W.Hook := hookX 4 xtra fa fn
def ob (s : PySem.W.SharedT) : AlX := obsXG 4 xtra fa fn (HandSHeadRun.getT s)
theorem ob_eq (s : PySem.W.SharedT) : ob s = hk.obs s.abs := obsXG_eq (HandSHeadRun.getT_eq s)
theorem run (w : World) : HandSHeadRun.RunEq R (PySem.W.view R.prog [71]) hk ob 6000 names w := by
  intro os
  kernel_rfl
theorem holds_of (hm : ∀ ns : List Int, ns.length ≤ 63 → ∃ ah', f_law [.scr (ns.map .int)] [] = some (.bl true, ah')) : PySem.Challenge.rw_faceonface_k88_whole_told_lists_of_books.Holds := by
  open PySem PySem.W PySem.Calls PyProof.Rows in
  w_on; o_law
  refine HandSHeadRun.head_any (r := OpenLaw.row PySem.Challenge.rw_faceonface_k88_whole_told_lists_of_books) (q := view (OpenLaw.row PySem.Challenge.rw_faceonface_k88_whole_told_lists_of_books).prog [71]) (H := hk) (ob := ob) (M := 6000) (loose := names) (d := HandSHeadRun.topDef (OpenLaw.row PySem.Challenge.rw_faceonface_k88_whole_told_lists_of_books).prog 71) (kwd := []) ob_eq
    (by kernel_rfl) (fun s => by kernel_rfl) run (by kernel_rfl) (by kernel_rfl) (by kernel_rfl) (by rfl) (by first | assumption | decide +kernel) (by decide +kernel) ⟨rfl, rfl, rfl, rfl, rfl, by decide +kernel⟩ ?hw ?hc
  case hw => w_witness2
  case hc =>
    refine L2.walk_ofE (l := PySem.Challenge.rw_faceonface_k88_whole_told_lists_of_books) (n := 63) (k := 15) (x := "script") (CX := L2.CX0) rfl (by decide) (by kernel_rfl) ⟨rfl, by decide, by decide⟩ ?F (fun _ _ _ _ z => z)
    intro w mg fa h Y G hmg0
    obtain ⟨K, KX, c⟩ := Y
    have hmg : mg ("law" : PySem.Str) = some (.ref fa) := by
      have e : (HandSHeadRun.topDef (OpenLaw.row PySem.Challenge.rw_faceonface_k88_whole_told_lists_of_books).prog 71).name = ("law" : PySem.Str) := by kernel_rfl
      rw [← e]
      exact hmg0
    have T := tx_of KX G c.d c.ex
    have ea := hmg.symm.trans T.g_law
    cases ea
    obtain ⟨fd, hF⟩ := T.F_law
    have b := FunD.bindsA (ps := ["script"]) hF fun _ _ _ _ _ _ us hl => match us, hl with | [_], _ => rfl
    exact ⟨K, fd, spM K (clT K) f_law 1, KX, fun s v => b s [v] rfl, fun H a ns hl _ hS => sp_start (hm ns hl) hS, fun base _ _ => okF_law T hF⟩
end K88

set_option linter.all false
set_option maxRecDepth 100000
namespace K88
open PySem L2 MM
theorem law_end (ns : List Int) (hn : ns.length ≤ 63) : ∃ ah', f_law [.scr (ns.map .int)] [] = some (.bl true, ah') := by
  suffices hs : ∃ A, s_law [some (.scr (ns.map .int)), none, none, none, none, none, none, none, none, none, none] [] = some (.rt (.bl true), A) by
    obtain ⟨A, e⟩ := hs
    have := fn_rt (n := 11) (k := 1) (s := s_law) (ds := [.scr (ns.map .int)]) (ah := []) rfl e
    refine ⟨(trim [] (.bl true, A)).2, this.trans (congrArg some ?_)⟩
    unfold trim
    split <;> rfl
  obtain ⟨cs, eb, ob⟩ := ev_lbag ns hn
  have hb0 : BagAt [.lst (bagL 0 1234567891 0 cs)] 0 := ⟨_, _, _, _, rfl, ob⟩
  have bd0 : Bd [.lst (bagL 0 1234567891 0 cs)] := by
    intro o ho
    rw [List.mem_singleton.mp ho]
    exact bag_bd _ _ _ _ _
  have s1 : sAsg (tgN 1) (eCall f__law_bag (aCons (eVar 0) aNil)) [some (.scr (ns.map .int)), none, none, none, none, none, none, none, none, none, none] [] = some (.nx [some (.scr (ns.map .int)), some (.ptr 0), none, none, none, none, none, none, none, none, none], [.lst (bagL 0 1234567891 0 cs)]) := asg_ev ((call_ev (cons_ev (var_ev rfl) (nil_ev _ _))).trans eb)
  obtain ⟨w, h, H1, ebx, w1, w3, h1, h3, g1⟩ := ev_box hb0
  have s2 : sAsg (tgN 2) (eCall f__law_box (aCons (eVar 1) (aCons (eC (.int 3)) aNil))) [some (.scr (ns.map .int)), some (.ptr 0), none, none, none, none, none, none, none, none, none] [.lst (bagL 0 1234567891 0 cs)] = some (.nx [some (.scr (ns.map .int)), some (.ptr 0), some (.tup [.int w, .int h]), none, none, none, none, none, none, none, none], H1) := asg_ev ((call_ev (cons_ev (var_ev rfl) (cons_ev rfl (nil_ev _ _)))).trans ebx)
  obtain ⟨r, H2, t2, lr, g2⟩ := take_ev (δ := [some (.scr (ns.map .int)), some (.ptr 0), some (.tup [.int w, .int h]), none, none, none, none, none, none, none, none]) (i := 1) (m := eC (.int 4)) g1.at' rfl rfl (many := 4) (by decide) (by decide)
  obtain ⟨M, H3, en, hM, lM, g3⟩ := ev_lnames (many := r + 1) g2.at' (by omega) (by omega)
  have W : Wh w h := ⟨w1, by omega, h1, by omega⟩
  have s3 : sAsg (tgN 3) (eCall f__law_names (aCons (eVar 1) (aCons (eBin gAdd (eC (.int 1)) (eCall f__law_take (aCons (eVar 1) (aCons (eC (.int 4)) aNil)))) aNil))) [some (.scr (ns.map .int)), some (.ptr 0), some (.tup [.int w, .int h]), none, none, none, none, none, none, none, none] H1 = some (.nx [some (.scr (ns.map .int)), some (.ptr 0), some (.tup [.int w, .int h]), some (.lst (M.map .str)), none, none, none, none, none, none, none], H3) := by
    have e : (1 : Int) + (r : Nat) = ((r + 1 : Nat) : Int) := by omega
    exact asg_ev ((call_ev (cons_ev (var_ev rfl) (cons_ev (add_int (i := 1) rfl t2) (nil_ev _ _)))).trans (by rw [e]; exact en))
  have bd3 := g3.bd (g2.bd (g1.bd bd0))
  obtain ⟨st, H4, ef, g4⟩ := ev_lfaces W hM bd3 g3.at'
  have s4 : sAsg (tgN 4) (eCall f__law_faces (aCons (eVar 1) (aCons (eVar 2) (aCons (eVar 3) aNil)))) [some (.scr (ns.map .int)), some (.ptr 0), some (.tup [.int w, .int h]), some (.lst (M.map .str)), none, none, none, none, none, none, none] H3 = some (.nx [some (.scr (ns.map .int)), some (.ptr 0), some (.tup [.int w, .int h]), some (.lst (M.map .str)), some (lawD M w h st), none, none, none, none, none, none], H4) := asg_ev ((call_ev (cons_ev (var_ev rfl) (cons_ev (var_ev rfl) (cons_ev (var_ev rfl) (nil_ev _ _))))).trans ef)
  have bd4 := g4.bd bd3
  obtain ⟨v0, v1, v2, cs4, e40, o4⟩ := id g4.at'
  have l4 : H4.length = 1 := by rw [g4.len, g3.len, g2.len, g1.len]; rfl
  obtain ⟨x, rfl⟩ := List.length_eq_one_iff.mp l4
  have ex : x = .lst (bagL v0 v1 v2 cs4) := by simpa using e40
  subst ex
  have mb : eMake "Book" f_Book___init__ (aCons (eMkF "Stamps" f_Stamps___init__ (aCons (eVar 4) aNil)) aNil) [some (.scr (ns.map .int)), some (.ptr 0), some (.tup [.int w, .int h]), some (.lst (M.map .str)), some (lawD M w h st), none, none, none, none, none, none] [.lst (bagL v0 v1 v2 cs4)] = some (.ptr 1, [.lst (bagL v0 v1 v2 cs4), bookO M w h st [] 2 3, .lst [], .lst []]) := by
    unfold eMake
    rw [cons_ev (mk_stamps hM w1 (by omega) h1 (by omega) bd4 (cons_ev (var_ev rfl) (nil_ev _ _))) (nil_ev _ _), Option.bind_some]
    have i := ev_binit (M := M) (w := w) (h := h) (st := st) (ah := [.lst (bagL v0 v1 v2 cs4), .ins "Book" []]) (n := 1) rfl
    show (Option.bind (f_Book___init__ [.ptr 1, stD M w h st] [.lst (bagL v0 v1 v2 cs4), .ins "Book" []]) _) = _
    rw [i]
    rfl
  have s5 : sPar 5 6 (eOwn (fLst (aCons (eOwn (fLst (aCons (eMake "Book" f_Book___init__ (aCons (eMkF "Stamps" f_Stamps___init__ (aCons (eVar 4) aNil)) aNil)) (aCons (eFrz (fLst (aCons (eFrz (fLst aNil)) aNil))) (aCons (eC (.int 0)) aNil))))) aNil))) (eOwn (fLst aNil)) [some (.scr (ns.map .int)), some (.ptr 0), some (.tup [.int w, .int h]), some (.lst (M.map .str)), some (lawD M w h st), none, none, none, none, none, none] [.lst (bagL v0 v1 v2 cs4)] = some (.nx (lawS ns w h M st none), [.lst (bagL v0 v1 v2 cs4), bookO M w h st [] 2 3, .lst [], .lst [], .lst [.ptr 1, .lst [.lst []], .int 0], .lst [.ptr 4], .lst []]) := by
    refine (par_ev (own_ev (lst_ev (cons_ev (own_ev (lst_ev (cons_ev mb (cons_ev (d := .lst [.lst []]) rfl (cons_ev (d := .int 0) rfl (nil_ev _ _)))) (by simp))) (nil_ev _ _)) (by simp))) (own_ev (l := []) rfl)).trans ?_
    rfl
  have I0 : LInv M w h st [.lst (bagL v0 v1 v2 cs4), bookO M w h st [] 2 3, .lst [], .lst [], .lst [.ptr 1, .lst [.lst []], .int 0], .lst [.ptr 4], .lst []] 0 [⟨4, 1, 2, 3⟩] := by
    refine ⟨?_, ⟨v0, v1, v2, cs4, rfl, o4⟩, ⟨[], rfl, (fun d hd => nomatch hd), Nat.le_refl _⟩, .inl rfl, rfl, fun q hq => ?_, fun i j a b ha hb hij => ?_⟩
    · intro o ho
      simp only [List.mem_cons, List.not_mem_nil, or_false] at ho
      rcases ho with rfl | rfl | rfl | rfl | rfl | rfl | rfl
      · exact bag_bd _ _ _ _ _
      · exact book_bd (by simp) (by simp)
      · rfl
      · rfl
      · rfl
      · rfl
      · rfl
    · rw [List.mem_singleton.mp hq]
      refine ⟨⟨[[]], 0, rfl, by decide, ⟨rfl, rfl, rfl, by decide, by decide, by decide⟩, fun z hz d hd => ?_, fun z hz => ?_, by decide⟩, ⟨by decide, by decide, by decide, by decide, by decide, by decide, by decide, by decide, by decide, by decide, by decide, by decide⟩, by decide, by decide, by decide, by decide⟩
      · rw [List.mem_singleton.mp hz] at hd
        cases hd
      · rw [List.mem_singleton.mp hz]
        exact Nat.le_refl _
    · match i, j, ha, hb with
      | 0, 0, _, _ => exact absurd rfl hij
      | (i + 1), _, ha, _ => cases ha
      | 0, (j + 1), _, hb => cases hb
  obtain ⟨r6, H6, t6, l6, g6⟩ := take_ev (δ := lawS ns w h M st none) (i := 1) (m := eC (.int 21)) I0.bag rfl rfl (many := 21) (by decide) (by decide)
  have I6 := I0.bg g6
  have rg : iRng1M (eBin gAdd (eC (.int 4)) (eCall f__law_take (aCons (eVar 1) (aCons (eC (.int 21)) aNil)))) (lawS ns w h M st none) [.lst (bagL v0 v1 v2 cs4), bookO M w h st [] 2 3, .lst [], .lst [], .lst [.ptr 1, .lst [.lst []], .int 0], .lst [.ptr 4], .lst []] = some ((List.range (r6 + 4)).map fun i => .int (i : Nat), H6) := by
    refine rng1 ?_ (by omega)
    have e : (4 : Int) + (r6 : Nat) = ((r6 + 4 : Nat) : Int) := by omega
    rw [← e]
    exact add_int (i := 4) rfl t6
  obtain ⟨δ7, H7, e7, ⟨x7, rfl, qs7, I7⟩⟩ := forGo_inv (g := tgN 7) (b := sSeq (sIf (tAndM (tOf (eBin gEq (e1 gLen (eVar 5)) (eC (.int 1)))) (tOf (eBin gEq (eCall f__law_take (aCons (eVar 1) (aCons (eC (.int 6)) aNil))) (eC (.int 0))))) (sExpr (eMut gAppend (eVar 5) (aCons (eOwn (fLst (aCons (eMeth [("Book", f_Book_copied)] "copied" (eIx (eIx (eVar 5) (eC (.int 0))) (eC (.int 0))) aNil) (aCons (eFrz (fComp (iAny (eIx (eIx (eVar 5) (eC (.int 0))) (eC (.int 1)))) (tgN 10) tYesM (eFrz (f1 gList (eVar 10))) [10])) (aCons (eIx (eIx (eVar 5) (eC (.int 0))) (eC (.int 2))) aNil))))) aNil))) sNil) (sIf (tNotM (tOf (eCall f__law_step (aCons (eVar 1) (aCons (eVar 2) (aCons (eVar 3) (aCons (eVar 4) (aCons (eIx (eVar 5) (eCall f__law_take (aCons (eVar 1) (aCons (e1 gLen (eVar 5)) aNil)))) (aCons (eVar 6) aNil))))))))) (sRet (eC (.bl false))) sNil))
    (I := fun dn δ H => ∃ x7, δ = lawS ns w h M st x7 ∧ ∃ qs, LInv M w h st H dn.length qs) (l := (List.range (r6 + 4)).map fun i => .int (i : Nat)) (done := []) (δ := lawS ns w h M st none) (ah := H6) ⟨none, rfl, _, I6⟩ (by
      rintro dn d rr δ H edn ⟨x7, rfl, qs, I⟩
      have ld : dn.length ≤ 100 := by
        have := congrArg List.length edn
        simp at this
        omega
      obtain ⟨H', qs', e, I'⟩ := ev_round W hM (ns := ns) (x7 := some d) ld I
      exact ⟨lawS ns w h M st (some d), _, H', rfl, e, some d, rfl, qs', by rw [List.length_append]; exact I'⟩)
  obtain ⟨Hs, e66, hh, nH⟩ := I7.held
  have l66 := (List.getElem?_eq_some_iff.mp e66).1
  have nH : Hs.length ≤ 100 := by
    simp at nH
    omega
  have fz : freeze (.ptr 6, H7) = some (.lst Hs, H7.set 6 .gone) := by
    unfold freeze
    simp only [e66]
  have last : sRet (eBin gEq (eFrz (fComp (iAny (eVar 6)) (tgT (tgCons (tgN 8) (tgCons (tgN 9) tgNil))) (tOf (eBin gNe (eVar 8) (eVar 9))) (eC (.int 1)) [8, 9])) (eFrz (fLst aNil))) ((lawS ns w h M st x7).set 6 (some (.lst Hs))) (H7.set 6 .gone) = some (.rt (.bl true), H7.set 6 .gone) := by
    refine ret_ev (bin_ev (frz_ev ((comp_ev (iAny_lst (l := Hs) (var_ev rfl)) (by omega)).trans (held_none hh (by show 9 < 11; decide)))) (y := .lst []) rfl rfl)
  refine ⟨H7.set 6 .gone, ?_⟩
  unfold s_law
  exact (seq_nx s1).trans ((seq_nx s2).trans ((seq_nx s3).trans ((seq_nx s4).trans ((seq_nx s5).trans ((seq_nx ((for_ev rg).trans e7)).trans ((frz_slot rfl fz).trans last))))))
theorem holds : PySem.Challenge.rw_faceonface_k88_whole_told_lists_of_books.Holds := holds_of law_end
end K88

theorem PySem.Challenge.cw_faceonface_k88_whole_told_lists_of_books_holds : PySem.Challenge.rw_faceonface_k88_whole_told_lists_of_books.Holds := by
  exact K88.holds
